import PyProof.Rows.All
import Wide.All
import OpenK.AllK
import Wide.FinOn
import HandS.ForMost
import HandS.Wide
import HandS.Deep
import HandS.IsInst
import HandS.TupAny
import HandS.TupMul
import HandS.Zip
import HandS.Rev
import HandS.RevRange
import HandS.Style
import HandS.Conv
import HandS.Flow
import HandS.SortInts
import HandS.ExcIs
import HandS.ExcValue
import HandS.ExcCtx
import HandS.HotCalls
import KE.KTupSum
import KE.SortData
import KE.DataCmp
import HandS.TupSets
import HandS.RevTup
import KE.GoesMore
import KE.GoesEnum
import PyProof.ListIndexNeg
import KE.DataMinMax
import KE.KIndexOf
import HandS.More
import KE.KDictPairs
import KE.SortCalls
import HandS.TupLen
import KE.DataAny
import HandS.WordsExc
import PyProof.ExcBaseAll.ValueError
import HandS.Text
import HandS.Replace
import HandS.TryOnly
import KE.GoesZip
import PySem.Challenge.RW_windowfloor_k59_whole_one_of_both
set_option Elab.async false
set_option linter.all false
set_option maxRecDepth 100000
set_option maxHeartbeats 4000000
/-! A layer over L2 (HandS): values as trees, a store of own lists and dicts; readings without addresses. -/
namespace L3
open PySem PySem.Spec PyProof.Rows L2

/-! ### data, dicts among them: HandS's own look (L2.Dp) with dicts of the kept heap besides -/
def datK : Key → PyData
  | .inl i => .int i
  | .inr x => .str x
mutual
inductive Dp (F : PySem.W.Frag) (G : Hp) : V → PyData → Prop
  | non : Dp F G .non .none
  | bl (c : Bool) : Dp F G (.bl c) (.bool c)
  | int (n : Int) : Dp F G (.int n) (.int n)
  | str (y : Str) : Dp F G (.str y) (.str y)
  | lst {l : Addr} {vs : List V} {es : List PyData} : SqL F G l vs → DpAll F G vs es → Dp F G (.ref l) (.list es)
  | tup {l : Addr} {vs : List V} {es : List PyData} : SqT F G l vs → DpAll F G vs es → Dp F G (.ref l) (.tuple es)
  | dct {l : Addr} {kxs : List (Key × V)} {kvs : List (PyData × PyData)} : G l = some (.dK kxs) → DpKv F G kxs kvs → Dp F G (.ref l) (.dict kvs)
inductive DpAll (F : PySem.W.Frag) (G : Hp) : List V → List PyData → Prop
  | nil : DpAll F G [] []
  | cons {v : V} {vs : List V} {e : PyData} {es : List PyData} : Dp F G v e → DpAll F G vs es → DpAll F G (v :: vs) (e :: es)
inductive DpKv (F : PySem.W.Frag) (G : Hp) : List (Key × V) → List (PyData × PyData) → Prop
  | nil : DpKv F G [] []
  | cons {k : Key} {v : V} {e : PyData} {kxs : List (Key × V)} {kvs : List (PyData × PyData)} : Dp F G v e → DpKv F G kxs kvs → DpKv F G ((k, v) :: kxs) ((datK k, e) :: kvs)
end
mutual
theorem Dp.two {F : PySem.W.Frag} {G : Hp} : ∀ (e : PyData) (v : V), e.hasDict = false → Dp F G v e → L2.Dp F G v e
  | .none, _, _, h => by cases h; exact .non
  | .bool _, _, _, h => by cases h; exact .bl _
  | .int _, _, _, h => by cases h; exact .int _
  | .str _, _, _, h => by cases h; exact .str _
  | .list es, _, n, h => by
    simp only [PyData.hasDict] at n
    cases h with
    | lst hs ha => exact .lst hs (DpAll.two es _ n ha)
  | .tuple es, _, n, h => by
    simp only [PyData.hasDict] at n
    cases h with
    | tup hs ha => exact .tup hs (DpAll.two es _ n ha)
  | .dict _, _, n, _ => by simp [PyData.hasDict] at n
theorem DpAll.two {F : PySem.W.Frag} {G : Hp} : ∀ (es : List PyData) (vs : List V), PyData.hasDictAll es = false → DpAll F G vs es → L2.DpAll F G vs es
  | [], _, _, h => by cases h; exact .nil
  | e :: es, _, n, h => by
    simp only [PyData.hasDictAll, Bool.or_eq_false_iff] at n
    cases h with
    | cons h1 h2 => exact .cons (Dp.two e _ n.1 h1) (DpAll.two es _ n.2 h2)
end
theorem Dp.sh {F : PySem.W.Frag} {G : Hp} {e : PyData} {v : V} (h : Dp F G v e) (n : SeqAt.shaped e = true) : L2.Dp F G v e := Dp.two e v (PyData.hasDict_of_canLay e (SeqAt.canLay_of_shaped n)) h
section
variable {X : Cx} {pins : List (Addr × Obj)} {σ : L2.St} {G : Hp} {s : Shared}
theorem key_reads {k : Key} {v : Value} {h : Heap} (e : keyIs k v = true) : Reads h v (datK k) [] := by
  rcases keyIs_shape e with ⟨i, t, rfl, rfl⟩ | ⟨x, t, rfl, rfl⟩
  · exact Reads.int _ _
  · exact Reads.str _ _
mutual
theorem Dp.reads (J : L2.Inv X pins σ G s) : ∀ (e : PyData) (v : V) (z : Value), Dp X.K G v e → RelV v z → ∃ ks, Reads s.heap z e ks
  | .none, _, _, h, r => by cases h; cases r; exact ⟨_, .none⟩
  | .bool c, _, _, h, r => by cases h; cases r; exact ⟨_, .bool c⟩
  | .int n, _, _, h, r => by cases h; obtain ⟨q, rfl⟩ := r; exact ⟨_, .int n q⟩
  | .str y, _, _, h, r => by cases h; obtain ⟨q, rfl⟩ := r; exact ⟨_, .str y q⟩
  | .list es, _, _, .lst hs ha, r => by
    cases r
    obtain ⟨zs, rz, ⟨ob, m, g1, g2, _, g3⟩, _⟩ := J.list hs
    obtain ⟨ks, hk⟩ := Dp.readsAll J es _ zs ha rz
    exact ⟨_, .list g1 g2 g3 hk⟩
  | .tuple es, _, _, .tup hs ha, r => by
    cases r
    obtain ⟨zs, rz, ⟨ob, g1, g2, m, g3⟩, _⟩ := J.tuple hs
    obtain ⟨ks, hk⟩ := Dp.readsAll J es _ zs ha rz
    exact ⟨_, .tuple g1 g2 g3 hk⟩
  | .dict kvs, _, _, .dct hs ha, r => by
    cases r
    obtain ⟨_, _, vs, hv, ob, es, ep, g1, g2, g3, _, hp, _⟩ := J.hok _ _ hs
    obtain ⟨as, bs, h1, h2⟩ := Dp.readsKv J kvs _ vs es.toList ha hv hp
    exact ⟨_, .dict g1 g2.1 g3 h1 h2⟩
theorem Dp.readsAll (J : L2.Inv X pins σ G s) : ∀ (es : List PyData) (vs : List V) (zs : List Value), DpAll X.K G vs es → Vals vs zs → ∃ ks, ReadsAll s.heap zs es ks
  | [], _, _, .nil, .nil => ⟨_, .nil⟩
  | e :: es, _, _, .cons h1 h2, .cons r1 r2 => by
    obtain ⟨ks, g1⟩ := Dp.reads J e _ _ h1 r1
    obtain ⟨ls, g2⟩ := Dp.readsAll J es _ _ h2 r2
    exact ⟨_, .cons g1 g2⟩
theorem Dp.readsKv (J : L2.Inv X pins σ G s) : ∀ (kvs : List (PyData × PyData)) (kxs : List (Key × V)) (vs : List (Key × Value)) (es : List DictEntry), DpKv X.K G kxs kvs → KV kxs vs → Pairs (mixKind X.prog X.w) es vs →
    ∃ as bs, ReadsAll s.heap (es.map (·.key)) (kvs.map (·.1)) as ∧ ReadsAll s.heap (es.map (·.val)) (kvs.map (·.2)) bs
  | [], _, _, _, h, r, p => by
    cases h
    cases r
    cases p
    exact ⟨_, _, .nil, .nil⟩
  | (k, d) :: kvs, _, _, _, h, r, p => by
    cases h with
    | cons h1 h2 =>
      cases r with
      | cons r1 r2 =>
        cases p with
        | cons p1 p2 p3 =>
          obtain ⟨e1, r1⟩ := r1
          obtain ⟨as, q1⟩ := Dp.reads J d _ _ h1 r1
          obtain ⟨bs, cs, q2, q3⟩ := Dp.readsKv J kvs _ _ _ h2 r2 p3
          rw [← e1] at p1
          rw [← p2] at q1
          exact ⟨_, _, .cons (key_reads p1) q2, .cons q1 q3⟩
end
end
/-! ### data, stores -/
inductive D where
  | p (d : PyData)
  | loc (n : Nat)
  | exc (c : Str) (o : Option Addr := none)
inductive O3 where
  | lst (ds : List PyData)
  | dic (kvs : List (List Key × PyData))
  | dik (kvs : List (Key × D))
  | lls (ds : List D)
  | dif (od : Obj) (kxs : List (List Key × V)) (kvs : List (List Key × PyData))
  | dkf (od : Obj) (kxs : List (Key × V)) (kvs : List (Key × D))
structure W3 where
  al : List Addr
  h : Hp
  pn : List (Addr × HO)
abbrev E3 := List (Option D)
abbrev S3 := List (Option O3)
def at3 : E3 → Nat → Option D
  | [], _ => none
  | x :: _, 0 => x
  | _ :: r, n + 1 => at3 r n
def set3 : E3 → Nat → D → E3
  | [], _, _ => []
  | _ :: r, 0, d => some d :: r
  | x :: r, n + 1, d => x :: set3 r n d
theorem at3_get : ∀ (env : E3) (i : Nat), at3 env i = (env[i]?).join
  | [], _ => rfl
  | x :: _, 0 => rfl
  | _ :: r, n + 1 => by
    rw [List.getElem?_cons_succ]
    exact at3_get r n
theorem set3_length : ∀ (env : E3) (i : Nat) (d : D), (set3 env i d).length = env.length
  | [], _, _ => rfl
  | _ :: _, 0, _ => rfl
  | _ :: r, n + 1, d => congrArg (· + 1) (set3_length r n d)
theorem at3_set : ∀ (env : E3) (i j : Nat) (d : D), at3 (set3 env i d) j = if j = i ∧ i < env.length then some d else at3 env j
  | [], i, j, d => by simp [set3, at3]
  | x :: r, 0, 0, d => by simp [set3, at3]
  | x :: r, 0, j + 1, d => by simp [set3, at3]
  | x :: r, i + 1, 0, d => by simp [set3, at3]
  | x :: r, i + 1, j + 1, d => by
    show at3 (set3 r i d) j = _
    rw [at3_set r i j d]
    simp only [List.length_cons, Nat.add_right_cancel_iff, Nat.add_lt_add_iff_right]
    rfl

/-! ### what a value stands for -/
section
variable (K : PySem.W.Frag)
/-- an error of the main module's class c -/
def RepX (h : Hp) (v : V) (c : Str) (o : Option Addr) : Prop := ∃ (a C : Addr) (φ : Heap → Prop), v = .ref a ∧ PySem.W.nsIn K mainGlobals c = some (some (.ref C)) ∧ h a = some (.ext φ) ∧
  (∀ g, φ g → ∃ oe vs, g.get? a = some oe ∧ L2N.Zn (.ref C) none oe ∧ oe.data = .fields vs) ∧ ∀ b, o = some b → b = a
def RepD (w : W3) (v : V) : D → Prop
  | .p d => Dp K w.h v d
  | .loc n => ∃ a, w.al[n]? = some a ∧ v = .ref a
  | .exc c o => RepX K w.h v c o
def under (n : Nat) : D → Prop
  | .loc m => m < n
  | _ => True
def RepDs (w : W3) : List V → List D → Prop
  | [], [] => True
  | v :: vs, d :: ds => RepD K w v d ∧ RepDs w vs ds
  | _, _ => False
def RepO (w : W3) (n : Nat) (u : HO) : O3 → Prop
  | .lst ds => ∃ xs, u = .lst xs ∧ DpAll K w.h xs ds ∧ ds.length ≤ sizeLine
  | .dic kvs => ∃ kxs, u = .dT kxs ∧ Paired (fun (p : List Key × V) (q : List Key × PyData) => p.1 = q.1 ∧ Dp K w.h p.2 q.2) kxs kvs
  | .dik kvs => ∃ kxs, u = .dK kxs ∧ Paired (fun (p : Key × V) (q : Key × D) => p.1 = q.1 ∧ RepD K w p.2 q.2 ∧ under n q.2) kxs kvs
  | .lls ds => ∃ xs, u = .lst xs ∧ Paired (fun (v : V) (d : D) => RepD K w v d ∧ under n d) xs ds ∧ ds.length ≤ sizeLine
  | .dif od kxs kvs => u = .frz od (.dT kxs) ∧ Paired (fun (p : List Key × V) (q : List Key × PyData) => p.1 = q.1 ∧ Dp K w.h p.2 q.2) kxs kvs
  | .dkf od kxs kvs => u = .frz od (.dK kxs) ∧ Paired (fun (p : Key × V) (q : Key × D) => p.1 = q.1 ∧ RepD K w p.2 q.2 ∧ under n q.2) kxs kvs
def SzO : HO → Prop
  | .lst xs => xs.length ≤ sizeLine
  | .tup xs => xs.length ≤ sizeLine
  | .frz _ (.lst xs) => xs.length ≤ sizeLine
  | .frz _ (.tup _) => False
  | .frz _ _ => False
  | _ => True
structure Ex0 (w w' : W3) : Prop where
  al : ∃ t, w'.al = w.al ++ t
  h : Same w.h w'.h
structure Ex3 (w w' : W3) : Prop extends Ex0 w w' where
  pn : w'.pn = w.pn
def NoTupO : HO → Prop
  | .tup _ => False
  | _ => True
/-- what stands apart: each once, no tuples -/
def PnOk (pn : List (Addr × HO)) : Prop := (pn.map (·.1)).Nodup ∧ ∀ p ∈ pn, NoTupO p.2
theorem PnOk.nil : PnOk [] := ⟨List.nodup_nil, fun _ h => nomatch h⟩
structure Rel3 (w : W3) (H : Hp) (S : List (Option O3)) : Prop where
  sub : Same w.h H
  sz : ∀ a u, w.h a = some u → SzO u
  len : w.al.length = S.length
  live : ∀ (n : Nat) (a : Addr) (o : O3), w.al[n]? = some a → S[n]? = some (some o) → w.h a = none ∧ ∃ u, H a = some u ∧ RepO K w n u o
  dead : ∀ (n : Nat) (a : Addr), w.al[n]? = some a → S[n]? = some none → ∃ u, w.h a = some u
  nd : w.al.Nodup
  pin : ∀ (a : Addr) (u : HO), (a, u) ∈ w.pn → H a = some u ∧ w.h a = none ∧ a ∉ w.al
  pnd : PnOk w.pn
def EnvR (w : W3) (σ : L2.St) (env : E3) : Prop := σ.length = env.length ∧ ∀ i d, at3 env i = some d → ∃ v, σ[i]? = some (some v) ∧ RepD K w v d
end

theorem Same.sqT {K : PySem.W.Frag} {H H' : Hp} {a : Addr} {xs : List V} (e : Same H H') (h : SqT K H a xs) : SqT K H' a xs := by
  rcases h with (h | ⟨o, h⟩) | h
  · exact .inl (.inl (e _ _ h))
  · exact .inl (.inr ⟨o, e _ _ h⟩)
  · exact .inr h
mutual
theorem dp_mono {K : PySem.W.Frag} {H H' : Hp} (e : Same H H') : ∀ (d : PyData) (v : V), Dp K H v d → Dp K H' v d
  | .none, _, h => by cases h; exact .non
  | .bool b, _, h => by cases h; exact .bl b
  | .int i, _, h => by cases h; exact .int i
  | .str x, _, h => by cases h; exact .str x
  | .list ds, _, h => by
    cases h with
    | lst hs ha => exact .lst (L2.Same.seq e hs) (dpAll_mono e ds _ ha)
  | .tuple ds, _, h => by
    cases h with
    | tup hs ha => exact .tup (Same.sqT e hs) (dpAll_mono e ds _ ha)
  | .dict kvs, _, h => by
    cases h with
    | dct hs ha => exact .dct (e _ _ hs) (dpKv_mono e kvs _ ha)
theorem dpAll_mono {K : PySem.W.Frag} {H H' : Hp} (e : Same H H') : ∀ (ds : List PyData) (vs : List V), DpAll K H vs ds → DpAll K H' vs ds
  | [], _, h => by cases h; exact .nil
  | d :: ds, _, h => by
    cases h with
    | cons h1 h2 => exact .cons (dp_mono e d _ h1) (dpAll_mono e ds _ h2)
theorem dpKv_mono {K : PySem.W.Frag} {H H' : Hp} (e : Same H H') : ∀ (kvs : List (PyData × PyData)) (kxs : List (Key × V)), DpKv K H kxs kvs → DpKv K H' kxs kvs
  | [], _, h => by cases h; exact .nil
  | (k, d) :: kvs, _, h => by
    cases h with
    | cons h1 h2 => exact .cons (dp_mono e d _ h1) (dpKv_mono e kvs _ h2)
end
section
variable {K : PySem.W.Frag} {w w' w'' : W3} {H : Hp} {S : S3} {σ : L2.St} {env : E3} {v : V} {d : D}
theorem DpAll.length : ∀ {vs : List V} {ds : List PyData} {h : Hp}, DpAll K h vs ds → vs.length = ds.length
  | _, _, _, .nil => rfl
  | _, _, _, .cons _ t => congrArg (· + 1) (DpAll.length t)
theorem DpAll.get : ∀ {vs : List V} {ds : List PyData} {h : Hp} {i : Nat} {x : PyData}, DpAll K h vs ds → ds[i]? = some x → ∃ v, vs[i]? = some v ∧ Dp K h v x
  | _, _, _, _, _, .nil, e => by simp at e
  | _, _, _, 0, _, .cons r _, e => by
    simp at e
    subst e
    exact ⟨_, rfl, r⟩
  | _, _, _, i + 1, x, .cons _ t, e => by
    obtain ⟨v, h1, h2⟩ := DpAll.get (i := i) (x := x) t (by simpa using e)
    exact ⟨v, by simpa using h1, h2⟩
theorem DpAll.getV : ∀ {vs : List V} {ds : List PyData} {h : Hp} {i : Nat} {v : V}, DpAll K h vs ds → vs[i]? = some v → ∃ x, ds[i]? = some x ∧ Dp K h v x
  | _, _, _, _, _, .nil, e => by simp at e
  | _, _, _, 0, _, .cons r _, e => by
    simp at e
    subst e
    exact ⟨_, rfl, r⟩
  | _, _, _, i + 1, v, .cons _ t, e => by
    obtain ⟨x, h1, h2⟩ := DpAll.getV (i := i) (v := v) t (by simpa using e)
    exact ⟨x, by simpa using h1, h2⟩
theorem DpAll.append : ∀ {vs us : List V} {ds es : List PyData} {h : Hp}, DpAll K h vs ds → DpAll K h us es → DpAll K h (vs ++ us) (ds ++ es)
  | _, _, _, _, _, .nil, s => s
  | _, _, _, _, _, .cons r t, s => .cons r (DpAll.append t s)
theorem DpAll.take : ∀ {vs : List V} {ds : List PyData} {h : Hp} (n : Nat), DpAll K h vs ds → DpAll K h (vs.take n) (ds.take n)
  | _, _, _, 0, _ => .nil
  | _, _, _, _ + 1, .nil => .nil
  | _, _, _, n + 1, .cons r t => .cons r (DpAll.take n t)
theorem DpAll.drop : ∀ {vs : List V} {ds : List PyData} {h : Hp} (n : Nat), DpAll K h vs ds → DpAll K h (vs.drop n) (ds.drop n)
  | _, _, _, 0, r => r
  | _, _, _, _ + 1, .nil => .nil
  | _, _, _, n + 1, .cons _ t => DpAll.drop n t
theorem DpAll.set {x : PyData} {v : V} {h : Hp} (r : Dp K h v x) : ∀ {vs : List V} {ds : List PyData} (i : Nat), DpAll K h vs ds → DpAll K h (vs.set i v) (ds.set i x)
  | _, _, _, .nil => .nil
  | _, _, 0, .cons _ t => .cons r t
  | _, _, i + 1, .cons q t => .cons q (DpAll.set r i t)
theorem DpAll.eraseIdx {h : Hp} : ∀ {vs : List V} {ds : List PyData} (i : Nat), DpAll K h vs ds → DpAll K h (vs.eraseIdx i) (ds.eraseIdx i)
  | _, _, _, .nil => .nil
  | _, _, 0, .cons _ t => t
  | _, _, i + 1, .cons q t => .cons q (DpAll.eraseIdx i t)
theorem DpAll.replicate {x : PyData} {v : V} {h : Hp} (r : Dp K h v x) : ∀ n : Nat, DpAll K h (List.replicate n v) (List.replicate n x)
  | 0 => .nil
  | n + 1 => .cons r (DpAll.replicate r n)
theorem DpAll.flatten {h : Hp} {vs : List V} {ds : List PyData} (r : DpAll K h vs ds) : ∀ n : Nat, DpAll K h (List.replicate n vs).flatten (List.replicate n ds).flatten
  | 0 => .nil
  | n + 1 => by
    rw [List.replicate_succ, List.replicate_succ, List.flatten_cons, List.flatten_cons]
    exact DpAll.append r (DpAll.flatten r n)
theorem DpAll.reverse {h : Hp} : ∀ {vs : List V} {ds : List PyData}, DpAll K h vs ds → DpAll K h vs.reverse ds.reverse
  | _, _, .nil => .nil
  | _, _, .cons r t => by
    rw [List.reverse_cons, List.reverse_cons]
    exact DpAll.append (DpAll.reverse t) (.cons r .nil)

theorem Ex3.refl (w : W3) : Ex3 w w := ⟨⟨⟨[], by simp⟩, Same.refl _⟩, rfl⟩
theorem Ex0.trans (a : Ex0 w w') (b : Ex0 w' w'') : Ex0 w w'' := by
  obtain ⟨t, h1⟩ := a.al
  obtain ⟨u, h2⟩ := b.al
  exact ⟨⟨t ++ u, by rw [h2, h1, List.append_assoc]⟩, a.h.trans b.h⟩
theorem Ex3.trans (a : Ex3 w w') (b : Ex3 w' w'') : Ex3 w w'' := ⟨a.toEx0.trans b.toEx0, b.pn.trans a.pn⟩
theorem Ex0.get (e : Ex0 w w') {n : Nat} {a : Addr} (h : w.al[n]? = some a) : w'.al[n]? = some a := by
  obtain ⟨t, h1⟩ := e.al
  rw [h1, List.getElem?_append_left (List.getElem?_eq_some_iff.mp h).1]
  exact h
theorem RepX.mono {h h' : Hp} {c : Str} {o : Option Addr} (e : Same h h') (x : RepX K h v c o) : RepX K h' v c o := by
  obtain ⟨a, C, φ, h1, h2, h3, h4, h5⟩ := x
  exact ⟨a, C, φ, h1, h2, e _ _ h3, h4, h5⟩
theorem RepD.mono0 (e : Ex0 w w') (h : RepD K w v d) : RepD K w' v d := by
  cases d with
  | exc c => exact RepX.mono e.h h
  | p d => exact dp_mono e.h d v h
  | loc n =>
    obtain ⟨a, h1, h2⟩ := h
    exact ⟨a, e.get h1, h2⟩
theorem RepD.mono (e : Ex3 w w') (h : RepD K w v d) : RepD K w' v d := h.mono0 e.toEx0
theorem RepDs.mono (e : Ex3 w w') : ∀ {vs : List V} {ds : List D}, RepDs K w vs ds → RepDs K w' vs ds
  | [], [], _ => trivial
  | _ :: _, _ :: _, h => ⟨h.1.mono e, RepDs.mono e h.2⟩
  | [], _ :: _, h => h.elim
  | _ :: _, [], h => h.elim
theorem RepDs.length : ∀ {vs : List V} {ds : List D}, RepDs K w vs ds → vs.length = ds.length
  | [], [], _ => rfl
  | _ :: _, _ :: _, h => congrArg (· + 1) (RepDs.length h.2)
  | [], _ :: _, h => h.elim
  | _ :: _, [], h => h.elim
theorem EnvR.mono0 (e : Ex0 w w') (h : EnvR K w σ env) : EnvR K w' σ env := ⟨h.1, fun i d q => by
  obtain ⟨v, h1, h2⟩ := h.2 i d q
  exact ⟨v, h1, h2.mono0 e⟩⟩
theorem EnvR.mono (e : Ex3 w w') (h : EnvR K w σ env) : EnvR K w' σ env := h.mono0 e.toEx0
theorem EnvR.set (h : EnvR K w σ env) (i : Nat) (r : RepD K w v d) : EnvR K w (σ.set i (some v)) (set3 env i d) := by
  refine ⟨by rw [List.length_set, set3_length]; exact h.1, fun j e q => ?_⟩
  rw [at3_set] at q
  by_cases hj : j = i ∧ i < env.length
  · rw [if_pos hj] at q
    cases q
    obtain ⟨rfl, hi⟩ := hj
    exact ⟨v, by rw [List.getElem?_set_self (by rw [h.1]; exact hi)], r⟩
  · rw [if_neg hj] at q
    obtain ⟨u, h1, h2⟩ := h.2 j e q
    refine ⟨u, ?_, h2⟩
    by_cases e : i = j
    · subst e
      have : i < σ.length := (List.getElem?_eq_some_iff.mp h1).1
      exact absurd ⟨rfl, by rw [← h.1]; exact this⟩ hj
    · rw [List.getElem?_set_ne e]
      exact h1
theorem Rel3.szL (r : Rel3 K w H S) {a : Addr} {xs : List V} (h : SqL K w.h a xs) : xs.length ≤ sizeLine := by
  rcases h with (h | ⟨o, h⟩) | ⟨_, its, _, _, _, _, _, hz, rv⟩
  · exact r.sz a _ h
  · exact r.sz a _ h
  · have := Vals.length rv
    rw [this]
    simpa using hz
theorem Rel3.szT (r : Rel3 K w H S) {a : Addr} {xs : List V} (h : SqT K w.h a xs) : xs.length ≤ sizeLine := by
  rcases h with (h | ⟨o, h⟩) | ⟨_, its, _, _, _, _, hz, rv⟩
  · exact r.sz a _ h
  · exact (r.sz a _ h).elim
  · have := Vals.length rv
    rw [this]
    simpa using hz
theorem RepO.mono {n : Nat} {u : HO} {o : O3} (e : Ex0 w w') (h : RepO K w n u o) : RepO K w' n u o := by
  cases o with
  | lst ds =>
    obtain ⟨xs, h4, h5, h6⟩ := h
    exact ⟨xs, h4, dpAll_mono e.h ds xs h5, h6⟩
  | dic kvs =>
    obtain ⟨kxs, h4, h5⟩ := h
    exact ⟨kxs, h4, Paired.mapP h5 fun p q z => ⟨z.1, dp_mono e.h _ _ z.2⟩⟩
  | dik kvs =>
    obtain ⟨kxs, h4, h5⟩ := h
    exact ⟨kxs, h4, Paired.mapP h5 fun p q z => ⟨z.1, z.2.1.mono0 e, z.2.2⟩⟩
  | lls ds =>
    obtain ⟨xs, h4, h5, h6⟩ := h
    exact ⟨xs, h4, Paired.mapP h5 fun v d z => ⟨z.1.mono0 e, z.2⟩, h6⟩
  | dif od kxs kvs =>
    obtain ⟨h4, h5⟩ := h
    exact ⟨h4, Paired.mapP h5 fun p q z => ⟨z.1, dp_mono e.h _ _ z.2⟩⟩
  | dkf od kxs kvs =>
    obtain ⟨h4, h5⟩ := h
    exact ⟨h4, Paired.mapP h5 fun p q z => ⟨z.1, z.2.1.mono0 e, z.2.2⟩⟩
theorem Rel3.notal (r : Rel3 K w H S) {a : Addr} (hn : H a = none) : ∀ (n : Nat) (b : Addr), w.al[n]? = some b → b ≠ a := fun n b e z => by
  subst z
  have hw : w.h b = none := r.sub.free hn
  have hl : n < S.length := by rw [← r.len]; exact (List.getElem?_eq_some_iff.mp e).1
  cases q : S[n]? with
  | none => exact absurd hl (by rw [List.getElem?_eq_none_iff] at q; omega)
  | some o =>
    cases o with
    | none =>
      obtain ⟨u', h1⟩ := r.dead n b e q
      rw [hw] at h1
      cases h1
    | some o =>
      obtain ⟨_, u', h1, _⟩ := r.live n b o e q
      rw [hn] at h1
      cases h1
/-- a new object that will never change -/
theorem Rel3.frz (r : Rel3 K w H S) {a : Addr} {u : HO} (hn : H a = none) (hz : SzO u) : Rel3 K ⟨w.al, upd w.h a u, w.pn⟩ (upd H a u) S ∧ Ex3 w ⟨w.al, upd w.h a u, w.pn⟩ := by
  have hw : w.h a = none := r.sub.free hn
  have sm : Same w.h (upd w.h a u) := fun b o e => by
    rw [upd_ne (ne_of_none e hw)]
    exact e
  have nal := r.notal hn
  have ex : Ex3 w ⟨w.al, upd w.h a u, w.pn⟩ := ⟨⟨⟨[], by simp⟩, sm⟩, rfl⟩
  refine ⟨⟨fun b o e => ?_, fun b o e => ?_, r.len, fun n b o e q => ?_, fun n b e q => ?_, r.nd, fun b o hb => ?_, r.pnd⟩, ex⟩
  · show upd H a u b = _
    by_cases hb : b = a
    · subst hb
      have e' : upd w.h b u b = some o := e
      rw [upd_same] at e' ⊢
      exact e'
    · have e' : upd w.h a u b = some o := e
      rw [upd_ne hb] at e' ⊢
      exact r.sub b o e'
  · have e' : upd w.h a u b = some o := e
    by_cases hb : b = a
    · subst hb
      rw [upd_same] at e'
      cases e'
      exact hz
    · rw [upd_ne hb] at e'
      exact r.sz b o e'
  · obtain ⟨h1, x, h2, h3⟩ := r.live n b o e q
    have nb := nal n b e
    exact ⟨by show upd w.h a u b = none; rw [upd_ne nb]; exact h1, x, by rw [upd_ne nb]; exact h2, h3.mono ex.toEx0⟩
  · obtain ⟨x, h1⟩ := r.dead n b e q
    exact ⟨x, sm b x h1⟩
  · obtain ⟨h1, h2, h3⟩ := r.pin b o hb
    have nb : b ≠ a := fun z => by rw [z, hn] at h1; cases h1
    exact ⟨by rw [upd_ne nb]; exact h1, by show upd w.h a u b = none; rw [upd_ne nb]; exact h2, h3⟩
/-- a new object of the store -/
theorem Rel3.push (r : Rel3 K w H S) {a : Addr} {u : HO} {o : O3} (hn : H a = none) (hr : RepO K w S.length u o) : Rel3 K ⟨w.al ++ [a], w.h, w.pn⟩ (upd H a u) (S ++ [some o]) ∧ Ex3 w ⟨w.al ++ [a], w.h, w.pn⟩ := by
  have hw : w.h a = none := r.sub.free hn
  have nal := r.notal hn
  have ex : Ex3 w ⟨w.al ++ [a], w.h, w.pn⟩ := ⟨⟨⟨[a], rfl⟩, Same.refl _⟩, rfl⟩
  refine ⟨⟨fun b x e => ?_, r.sz, by simp [r.len], fun n b x e q => ?_, fun n b e q => ?_, ?_, fun b o hb => ?_, r.pnd⟩, ex⟩
  · have e' : w.h b = some x := e
    rw [upd_ne (ne_of_none e' hw)]
    exact r.sub b x e'
  · have e' : (w.al ++ [a])[n]? = some b := e
    by_cases hl : n < w.al.length
    · rw [List.getElem?_append_left hl] at e'
      rw [List.getElem?_append_left (by rw [← r.len]; exact hl)] at q
      obtain ⟨h1, y, h2, h3⟩ := r.live n b x e' q
      exact ⟨h1, y, by rw [upd_ne (nal n b e')]; exact h2, h3.mono ex.toEx0⟩
    · rw [List.getElem?_append_right (by omega)] at e'
      rw [List.getElem?_append_right (by rw [← r.len]; omega)] at q
      have hk : n - w.al.length = 0 := by
        have := (List.getElem?_eq_some_iff.mp e').1
        simp at this
        omega
      rw [hk] at e'
      rw [← r.len, hk] at q
      simp at e' q
      subst e' q
      have hnn : n = S.length := by rw [r.len] at hk hl; omega
      exact ⟨hw, u, upd_same, hnn ▸ hr.mono ex.toEx0⟩
  · have e' : (w.al ++ [a])[n]? = some b := e
    by_cases hl : n < w.al.length
    · rw [List.getElem?_append_left hl] at e'
      rw [List.getElem?_append_left (by rw [← r.len]; exact hl)] at q
      exact r.dead n b e' q
    · rw [List.getElem?_append_right (by rw [← r.len]; omega)] at q
      have hk : n - S.length = 0 := by
        have := (List.getElem?_eq_some_iff.mp q).1
        simp at this
        omega
      rw [hk] at q
      simp at q
  · rw [List.nodup_append]
    refine ⟨r.nd, by simp, fun x hx y hy => ?_⟩
    simp at hy
    subst hy
    obtain ⟨n, hn'⟩ := List.getElem?_of_mem hx
    exact nal n x hn'
  · obtain ⟨h1, h2, h3⟩ := r.pin b o hb
    have nb : b ≠ a := fun z => by rw [z, hn] at h1; cases h1
    exact ⟨by rw [upd_ne nb]; exact h1, h2, by simp only [List.mem_append, List.mem_singleton, not_or]; exact ⟨h3, nb⟩⟩
/-- an object of the store is changed -/
theorem Rel3.put (r : Rel3 K w H S) {n : Nat} {a : Addr} {u : HO} {o o' : O3} (ha : w.al[n]? = some a) (hs : S[n]? = some (some o)) (hr : RepO K w n u o') : Rel3 K w (upd H a u) (S.set n (some o')) := by
  obtain ⟨hw, _⟩ := r.live n a o ha hs
  have hlen : n < S.length := (List.getElem?_eq_some_iff.mp hs).1
  have other : ∀ m b, w.al[m]? = some b → m ≠ n → b ≠ a := fun m b e hm z => by
    subst z
    obtain ⟨h1, e1⟩ := List.getElem?_eq_some_iff.mp e
    obtain ⟨h2, e2⟩ := List.getElem?_eq_some_iff.mp ha
    exact hm ((List.getElem_inj r.nd).mp (e1.trans e2.symm))
  refine ⟨fun b x e => ?_, r.sz, by simp [r.len], fun m b x e q => ?_, fun m b e q => ?_, r.nd, fun b o hb => ?_, r.pnd⟩
  rotate_right
  · obtain ⟨h1, h2, h3⟩ := r.pin b o hb
    have nb : b ≠ a := fun z => h3 (by rw [z]; exact List.mem_of_getElem? ha)
    exact ⟨by rw [upd_ne nb]; exact h1, h2, h3⟩
  · rw [upd_ne (ne_of_none e hw)]
    exact r.sub b x e
  · by_cases hm : m = n
    · subst hm
      rw [List.getElem?_set_self hlen] at q
      have e1 : b = a := Option.some.inj (e.symm.trans ha)
      cases q
      subst e1
      exact ⟨hw, u, upd_same, hr⟩
    · rw [List.getElem?_set_ne (Ne.symm hm)] at q
      obtain ⟨h1, y, h2, h3⟩ := r.live m b x e q
      exact ⟨h1, y, by rw [upd_ne (other m b e hm)]; exact h2, h3⟩
  · by_cases hm : m = n
    · subst hm
      rw [List.getElem?_set_self hlen] at q
      cases q
    · rw [List.getElem?_set_ne (Ne.symm hm)] at q
      exact r.dead m b e q
/-- an object of the store is said to change no more -/
theorem Rel3.freeze (r : Rel3 K w H S) {n : Nat} {a : Addr} {ds : List PyData} (ha : w.al[n]? = some a) (hs : S[n]? = some (some (.lst ds))) :
    ∃ u, Rel3 K ⟨w.al, upd w.h a u, w.pn⟩ H (S.set n none) ∧ Ex3 w ⟨w.al, upd w.h a u, w.pn⟩ ∧ Dp K (upd w.h a u) (.ref a) (.list ds) := by
  obtain ⟨hw, u, hu, xs, rfl, hd, hz⟩ := r.live n a _ ha hs
  have hlen : n < S.length := (List.getElem?_eq_some_iff.mp hs).1
  have sm : Same w.h (upd w.h a (.lst xs)) := fun b o e => by
    rw [upd_ne (ne_of_none e hw)]
    exact e
  have ex : Ex3 w ⟨w.al, upd w.h a (.lst xs), w.pn⟩ := ⟨⟨⟨[], by simp⟩, sm⟩, rfl⟩
  have other : ∀ m b, w.al[m]? = some b → m ≠ n → b ≠ a := fun m b e hm z => by
    subst z
    obtain ⟨h1, e1⟩ := List.getElem?_eq_some_iff.mp e
    obtain ⟨h2, e2⟩ := List.getElem?_eq_some_iff.mp ha
    exact hm ((List.getElem_inj r.nd).mp (e1.trans e2.symm))
  refine ⟨.lst xs, ⟨fun b x e => ?_, fun b x e => ?_, by simp [r.len], fun m b x e q => ?_, fun m b e q => ?_, r.nd, fun b o hb => ?_, r.pnd⟩, ex, .lst (.inl (.inl upd_same)) (dpAll_mono sm ds xs hd)⟩
  · have e' : upd w.h a (.lst xs) b = some x := e
    by_cases hb : b = a
    · subst hb
      rw [upd_same] at e'
      cases e'
      exact hu
    · rw [upd_ne hb] at e'
      exact r.sub b x e'
  · have e' : upd w.h a (.lst xs) b = some x := e
    by_cases hb : b = a
    · subst hb
      rw [upd_same] at e'
      cases e'
      show xs.length ≤ sizeLine
      rw [DpAll.length hd]
      exact hz
    · rw [upd_ne hb] at e'
      exact r.sz b x e'
  · by_cases hm : m = n
    · subst hm
      rw [List.getElem?_set_self hlen] at q
      cases q
    · rw [List.getElem?_set_ne (Ne.symm hm)] at q
      obtain ⟨h1, y, h2, h3⟩ := r.live m b x e q
      exact ⟨by show upd w.h a (.lst xs) b = none; rw [upd_ne (other m b e hm)]; exact h1, y, h2, h3.mono ex.toEx0⟩
  · by_cases hm : m = n
    · subst hm
      have : b = a := Option.some.inj (e.symm.trans ha)
      subst this
      exact ⟨_, upd_same⟩
    · rw [List.getElem?_set_ne (Ne.symm hm)] at q
      obtain ⟨y, h1⟩ := r.dead m b e q
      exact ⟨y, sm b y h1⟩
  · obtain ⟨h1, h2, h3⟩ := r.pin b o hb
    have nb : b ≠ a := fun z => h3 (by rw [z]; exact List.mem_of_getElem? ha)
    exact ⟨h1, by show upd w.h a (.lst xs) b = none; rw [upd_ne nb]; exact h2, h3⟩
/-- the last objects of the store are forgotten -/
theorem Rel3.shrink (r : Rel3 K w H S) (L : Nat) : Rel3 K ⟨w.al.take L, w.h, w.pn⟩ H (S.take L) := by
  refine ⟨r.sub, r.sz, by simp [r.len], fun n a o e q => ?_, fun n a e q => ?_, r.nd.sublist (List.take_sublist _ _), fun b o hb => ?_, r.pnd⟩
  rotate_right
  · obtain ⟨h1, h2, h3⟩ := r.pin b o hb
    exact ⟨h1, h2, fun z => h3 (List.mem_of_mem_take z)⟩
  · have e' : (w.al.take L)[n]? = some a := e
    have hn : n < L := by
      have := (List.getElem?_eq_some_iff.mp e').1
      rw [List.length_take] at this
      omega
    rw [List.getElem?_take_of_lt hn] at e' q
    obtain ⟨h1, u, h2, h3⟩ := r.live n a o e' q
    refine ⟨h1, u, h2, ?_⟩
    cases o with
    | lst ds => exact h3
    | dic kvs => exact h3
    | dif od kxs kvs => exact h3
    | dik kvs =>
      obtain ⟨kxs, h4, h5⟩ := h3
      refine ⟨kxs, h4, Paired.mapP h5 fun p q z => ⟨z.1, ?_, z.2.2⟩⟩
      obtain ⟨_, z1, z2⟩ := z
      cases hq : q.2 with
      | p d => rw [hq] at z1; exact z1
      | exc c => rw [hq] at z1; exact z1
      | loc m =>
        rw [hq] at z1 z2
        obtain ⟨b, g1, g2⟩ := z1
        have z2' : m < n := z2
        exact ⟨b, by show (w.al.take L)[m]? = _; rw [List.getElem?_take_of_lt (by omega)]; exact g1, g2⟩
    | dkf od kxs kvs =>
      obtain ⟨h4, h5⟩ := h3
      refine ⟨h4, Paired.mapP h5 fun p q z => ⟨z.1, ?_, z.2.2⟩⟩
      obtain ⟨_, z1, z2⟩ := z
      cases hq : q.2 with
      | p d => rw [hq] at z1; exact z1
      | exc c => rw [hq] at z1; exact z1
      | loc m =>
        rw [hq] at z1 z2
        obtain ⟨b, g1, g2⟩ := z1
        have z2' : m < n := z2
        exact ⟨b, by show (w.al.take L)[m]? = _; rw [List.getElem?_take_of_lt (by omega)]; exact g1, g2⟩
    | lls ds =>
      obtain ⟨xs, h4, h5, h6⟩ := h3
      refine ⟨xs, h4, Paired.mapP h5 fun v d z => ⟨?_, z.2⟩, h6⟩
      obtain ⟨z1, z2⟩ := z
      cases d with
      | p d => exact z1
      | exc c => exact z1
      | loc m =>
        obtain ⟨b, g1, g2⟩ := z1
        have z2' : m < n := z2
        exact ⟨b, by show (w.al.take L)[m]? = _; rw [List.getElem?_take_of_lt (by omega)]; exact g1, g2⟩
  · have e' : (w.al.take L)[n]? = some a := e
    have hn : n < L := by
      have := (List.getElem?_eq_some_iff.mp e').1
      rw [List.length_take] at this
      omega
    rw [List.getElem?_take_of_lt hn] at e' q
    exact r.dead n a e' q
/-- a new object that stands apart, as it is -/
theorem Rel3.pinNew (r : Rel3 K w H S) {a : Addr} {u : HO} (hn : H a = none) (hu : NoTupO u := by trivial) : Rel3 K ⟨w.al, w.h, (a, u) :: w.pn⟩ (upd H a u) S := by
  have hw : w.h a = none := r.sub.free hn
  have nal := r.notal hn
  refine ⟨fun b x e => ?_, r.sz, r.len, fun n b x e q => ?_, r.dead, r.nd, fun b o hb => ?_, ?_⟩
  · rw [upd_ne (ne_of_none e hw)]
    exact r.sub b x e
  · obtain ⟨h1, y, h2, h3⟩ := r.live n b x e q
    exact ⟨h1, y, by rw [upd_ne (nal n b e)]; exact h2, h3.mono ⟨⟨[], by simp⟩, Same.refl _⟩⟩
  · rcases List.mem_cons.mp hb with e | hb
    · cases e
      refine ⟨upd_same, hw, fun z => ?_⟩
      obtain ⟨n, h⟩ := List.getElem?_of_mem z
      exact nal n _ h rfl
    · obtain ⟨h1, h2, h3⟩ := r.pin b o hb
      have nb : b ≠ a := fun z => by rw [z, hn] at h1; cases h1
      exact ⟨by rw [upd_ne nb]; exact h1, h2, h3⟩
  · refine ⟨?_, fun p hp => (List.mem_cons.mp hp).elim (fun e => by subst e; exact hu) (r.pnd.2 p)⟩
    show (a :: w.pn.map (·.1)).Nodup
    rw [List.nodup_cons]
    refine ⟨fun z => ?_, r.pnd.1⟩
    obtain ⟨p, hp, e⟩ := List.mem_map.mp z
    have := (r.pin p.1 p.2 hp).1
    rw [e, hn] at this
    cases this
/-- what stands apart is written -/
theorem Rel3.repin {al : List Addr} {h : Hp} {a : Addr} {u u' : HO} {pn : List (Addr × HO)} (r : Rel3 K ⟨al, h, (a, u) :: pn⟩ H S) (hu : NoTupO u' := by trivial) : Rel3 K ⟨al, h, (a, u') :: pn⟩ (upd H a u') S := by
  obtain ⟨h1, h2, h3⟩ := r.pin a u List.mem_cons_self
  have nd := List.nodup_cons.mp (show (a :: pn.map (·.1)).Nodup from r.pnd.1)
  refine ⟨fun b x e => ?_, r.sz, r.len, fun n b x e q => ?_, r.dead, r.nd, fun b o hb => ?_, ?_⟩
  · rw [upd_ne (ne_of_none e h2)]
    exact r.sub b x e
  · obtain ⟨g1, y, g2, g3⟩ := r.live n b x e q
    have nb : b ≠ a := fun z => h3 (by rw [← z]; exact List.mem_of_getElem? e)
    exact ⟨g1, y, by rw [upd_ne nb]; exact g2, g3.mono ⟨⟨[], by simp⟩, Same.refl _⟩⟩
  · rcases List.mem_cons.mp hb with e | hb
    · cases e
      exact ⟨upd_same, h2, h3⟩
    · obtain ⟨g1, g2, g3⟩ := r.pin b o (List.mem_cons_of_mem _ hb)
      have nb : b ≠ a := fun z => nd.1 (by rw [← z]; exact List.mem_map_of_mem (f := (·.1)) hb)
      exact ⟨by rw [upd_ne nb]; exact g1, g2, g3⟩
  · exact ⟨r.pnd.1, fun p hp => (List.mem_cons.mp hp).elim (fun e => by subst e; exact hu) fun z => r.pnd.2 p (List.mem_cons_of_mem _ z)⟩
/-- the heap without an address -/
def del (H : Hp) (a : Addr) : Hp := fun b => if b = a then none else H b
theorem Rel3.unpin {al : List Addr} {h : Hp} {a : Addr} {u : HO} {pn : List (Addr × HO)} (r : Rel3 K ⟨al, h, (a, u) :: pn⟩ H S) : Rel3 K ⟨al, h, pn⟩ (del H a) S ∧ del H a a = none ∧ upd (del H a) a u = H := by
  obtain ⟨h1, h2, h3⟩ := r.pin a u List.mem_cons_self
  have nd := List.nodup_cons.mp (show (a :: pn.map (·.1)).Nodup from r.pnd.1)
  have dn : ∀ b, b ≠ a → del H a b = H b := fun b hb => by unfold del; rw [if_neg hb]
  refine ⟨⟨fun b x e => ?_, r.sz, r.len, fun n b x e q => ?_, r.dead, r.nd, fun b o hb => ?_, ⟨nd.2, fun p hp => r.pnd.2 p (List.mem_cons_of_mem _ hp)⟩⟩, by unfold del; rw [if_pos rfl], ?_⟩
  · rw [dn b (ne_of_none e h2)]
    exact r.sub b x e
  · obtain ⟨g1, y, g2, g3⟩ := r.live n b x e q
    have nb : b ≠ a := fun z => h3 (by rw [← z]; exact List.mem_of_getElem? e)
    exact ⟨g1, y, by rw [dn b nb]; exact g2, g3.mono ⟨⟨[], by simp⟩, Same.refl _⟩⟩
  · obtain ⟨g1, g2, g3⟩ := r.pin b o (List.mem_cons_of_mem _ hb)
    have nb : b ≠ a := fun z => nd.1 (by rw [← z]; exact List.mem_map_of_mem (f := (·.1)) hb)
    exact ⟨by rw [dn b nb]; exact g1, g2, g3⟩
  · funext b
    by_cases hb : b = a
    · subst hb
      rw [upd_same, h1]
    · rw [upd_ne hb, dn b hb]
end
end L3

namespace L3
open PySem PySem.Spec PyProof.Rows L2
/-! ### readings over trees and a store -/
abbrev K3 := D → S3 → Prop
abbrev TE3 := E3 → S3 → K3 → Prop
abbrev TT3 := E3 → S3 → (Bool → S3 → Prop) → Prop
abbrev TA3 := E3 → S3 → (List D → S3 → Prop) → Prop
abbrev R3 := D → D → S3 → K3 → Prop
abbrev U3 := D → S3 → K3 → Prop
abbrev C3 := List D → S3 → K3 → Prop
structure N3 where
  nx : E3 → S3 → Prop
  rt : K3
  bk : E3 → S3 → Prop := fun _ _ => False
  ct : E3 → S3 → Prop := fun _ _ => False
abbrev TS3 := N3 → E3 → S3 → Prop
abbrev TG3 := D → E3 → S3 → (E3 → S3 → Prop) → Prop
abbrev TGs3 := List PyData → E3 → S3 → (E3 → S3 → Prop) → Prop
abbrev TI3 := E3 → S3 → (List PyData → (S3 → Prop) → S3 → Prop) → Prop

section
variable (K : PySem.W.Frag)
/-- what is wanted behind, by trees; by values -/
def EndE (w : W3) (Q : K3) (R : VK) : Prop := ∀ w' v d H' S', Ex3 w w' → Rel3 K w' H' S' → RepD K w' v d → Q d S' → R v H'
def EndT (w : W3) (Q : Bool → S3 → Prop) (R : Bool → Hp → Prop) : Prop := ∀ w' b H' S', Ex3 w w' → Rel3 K w' H' S' → Q b S' → R b H'
def EndA (w : W3) (Q : List D → S3 → Prop) (R : List V → Hp → Prop) : Prop := ∀ w' vs ds H' S', Ex3 w w' → Rel3 K w' H' S' → RepDs K w' vs ds → Q ds S' → R vs H'
def EndN (w : W3) (Q : E3 → S3 → Prop) (R : L2.St → Hp → Prop) : Prop := ∀ w' σ' H' env' S', Ex3 w w' → Rel3 K w' H' S' → EnvR K w' σ' env' → Q env' S' → R σ' H'
structure EndS (w : W3) (D3 : N3) (D2 : Ends) : Prop where
  nx : EndN K w D3.nx D2.nx
  rt : EndE K w D3.rt D2.rt
  bk : EndN K w D3.bk D2.bk
  ct : EndN K w D3.ct D2.ct
def low (t : TE3) : TE := fun σ H R => ∃ w env S Q, Rel3 K w H S ∧ EnvR K w σ env ∧ t env S Q ∧ EndE K w Q R
def lowT (t : TT3) : TT := fun σ H R => ∃ w env S Q, Rel3 K w H S ∧ EnvR K w σ env ∧ t env S Q ∧ EndT K w Q R
def lowA (t : TA3) : TA := fun σ H R => ∃ w env S Q, Rel3 K w H S ∧ EnvR K w σ env ∧ t env S Q ∧ EndA K w Q R
def lowS (t : TS3) : TS := fun D2 σ H => ∃ w env S D3, Rel3 K w H S ∧ EnvR K w σ env ∧ t D3 env S ∧ EndS K w D3 D2
def lowG (t : TG3) : TG := fun v σ H R => ∃ w env S d Q, Rel3 K w H S ∧ EnvR K w σ env ∧ RepD K w v d ∧ t d env S Q ∧ EndN K w Q R
def lowGs (t : TGs3) : TGs := fun vs σ H R => ∃ w env S ds Q, Rel3 K w H S ∧ EnvR K w σ env ∧ DpAll K w.h vs ds ∧ t ds env S Q ∧ EndN K w Q R
def lowR (r : R3) : R2 := fun x y H R => ∃ w S d e Q, Rel3 K w H S ∧ RepD K w x d ∧ RepD K w y e ∧ r d e S Q ∧ EndE K w Q R
def lowU (r : U3) : V → Hp → VK → Prop := fun x H R => ∃ w S d Q, Rel3 K w H S ∧ RepD K w x d ∧ r d S Q ∧ EndE K w Q R
def lowC (r : C3) : List V → Hp → VK → Prop := fun xs H R => ∃ w S ds Q, Rel3 K w H S ∧ RepDs K w xs ds ∧ r ds S Q ∧ EndE K w Q R
/-- an iterator that yields the items xs, as long as the store is ok -/
def ItR (w : W3) (J : It) (xs : List PyData) (ok : S3 → Prop) : Prop := ∀ w' H S, Ex0 w w' → Rel3 K w' H S → ok S →
  (∀ i, xs.length ≤ i → J.stop i H) ∧ ∀ i x, xs[i]? = some x → J.go i H ∧ ∀ v H', J.yld i H v H' → ∃ w'', Ex3 w' w'' ∧ Rel3 K w'' H' S ∧ Dp K w''.h v x
def lowI (t : TI3) : TI := fun σ H R => ∃ w env S Q, Rel3 K w H S ∧ EnvR K w σ env ∧ t env S Q ∧
  ∀ w' J H' S' xs ok, Ex3 w w' → Rel3 K w' H' S' → ItR K w' J xs ok → xs.length ≤ sizeLine → Q xs ok S' → R J H'
end
section
variable {K : PySem.W.Frag} {w w' : W3}
theorem EndE.mono {Q : K3} {R : VK} (h : EndE K w Q R) (e : Ex3 w w') : EndE K w' Q R := fun w2 v d H' S' x r rd q => h w2 v d H' S' (e.trans x) r rd q
theorem EndT.mono {Q : Bool → S3 → Prop} {R : Bool → Hp → Prop} (h : EndT K w Q R) (e : Ex3 w w') : EndT K w' Q R := fun w2 v H' S' x r q => h w2 v H' S' (e.trans x) r q
theorem EndA.mono {Q : List D → S3 → Prop} {R : List V → Hp → Prop} (h : EndA K w Q R) (e : Ex3 w w') : EndA K w' Q R := fun w2 v d H' S' x r rd q => h w2 v d H' S' (e.trans x) r rd q
theorem EndN.mono {Q : E3 → S3 → Prop} {R : L2.St → Hp → Prop} (h : EndN K w Q R) (e : Ex3 w w') : EndN K w' Q R := fun w2 v H' env S' x r rd q => h w2 v H' env S' (e.trans x) r rd q
theorem EndS.mono {D3 : N3} {D2 : Ends} (h : EndS K w D3 D2) (e : Ex3 w w') : EndS K w' D3 D2 := ⟨h.nx.mono e, h.rt.mono e, h.bk.mono e, h.ct.mono e⟩
end

/-! ### consequence -/
section
variable {X : Cx} {e : Expr} {es : List Expr} {st : Stmt} {sts : List Stmt}
theorem _root_.L2.PE.imp {t t' : TE} (h : PE X e t) (i : ∀ σ H R, t' σ H R → t σ H R) : PE X e t' := ⟨fun pins s σ H Q I q => h.run pins s σ H Q I (i _ _ _ q)⟩
theorem _root_.L2.PT.imp {t t' : TT} (h : PT X e t) (i : ∀ σ H R, t' σ H R → t σ H R) : PT X e t' := ⟨fun pins s σ H Q I q => h.run pins s σ H Q I (i _ _ _ q)⟩
theorem _root_.L2.PW.imp {t t' : TT} (h : PW X e t) (i : ∀ σ H R, t' σ H R → t σ H R) : PW X e t' := ⟨fun wh pins s σ H Q I q => h.run wh pins s σ H Q I (i _ _ _ q)⟩
theorem _root_.L2.PA.imp {t t' : TA} (h : PA X es t) (i : ∀ σ H R, t' σ H R → t σ H R) : PA X es t' := ⟨fun pos pins s σ H Q I q => h.run pos pins s σ H Q I (i _ _ _ q)⟩
theorem _root_.L2.PS.imp {t t' : TS} (h : PS X st t) (i : ∀ D σ H, t' D σ H → t D σ H) : PS X st t' := ⟨fun pins s σ H D I q => h.run pins s σ H D I (i _ _ _ q)⟩
theorem _root_.L2.PSs.imp {t t' : TS} (h : PSs X sts t) (i : ∀ D σ H, t' D σ H → t D σ H) : PSs X sts t' := ⟨fun pins s σ H D I q => h.run pins s σ H D I (i _ _ _ q)⟩
theorem _root_.L2.PG.imp {t t' : TG} (h : PG X e t) (i : ∀ v σ H R, t' v σ H R → t v σ H R) : PG X e t' := ⟨fun pins s σ H v u Q I r q => h.run pins s σ H v u Q I r (i _ _ _ _ q)⟩
theorem _root_.L2.PGs.imp {t t' : TGs} (h : PGs X es t) (i : ∀ v σ H R, t' v σ H R → t v σ H R) : PGs X es t' := ⟨fun pins s σ H v u Q I r q => h.run pins s σ H v u Q I r (i _ _ _ _ q)⟩
theorem _root_.L2.PI.imp {tg : Expr} {t t' : TI} (h : PI X tg e t) (i : ∀ σ H R, t' σ H R → t σ H R) : PI X tg e t' := ⟨fun pins s σ H R I q => h.run pins s σ H R I (i _ _ _ q)⟩
theorem OpR.imp {f : Value → Value → Sem Value} {r r' : R2} (h : OpR X f r) (i : ∀ x y H Q, r' x y H Q → r x y H Q) : OpR X f r' := fun pins s σ H x y v u Q I rx ry q => h pins s σ H x y v u Q I rx ry (i _ _ _ _ q)
theorem IxR.imp {r r' : R2} (h : IxR X r) (i : ∀ x y H Q, r' x y H Q → r x y H Q) : IxR X r' := fun a b pins s σ H x y v u Q I rx ry q => h a b pins s σ H x y v u Q I rx ry (i _ _ _ _ q)
theorem CallR.imp {f : Value} {r r' : List V → Hp → VK → Prop} (h : CallR X f r) (i : ∀ x H Q, r' x H Q → r x H Q) : CallR X f r' := fun pins s σ H xs us Q I rx q => h pins s σ H xs us Q I rx (i _ _ _ q)
theorem CallR.or {f : Value} {r r' : List V → Hp → VK → Prop} (h : CallR X f r) (h' : CallR X f r') : CallR X f (fun x H Q => r x H Q ∨ r' x H Q) := fun pins s σ H xs us Q I rx q => q.elim (h pins s σ H xs us Q I rx) (h' pins s σ H xs us Q I rx)
theorem UnR.imp {f : Value → Sem Value} {r r' : V → Hp → VK → Prop} (h : UnR X f r) (i : ∀ x H Q, r' x H Q → r x H Q) : UnR X f r' := fun pins s σ H x v Q I rx q => h pins s σ H x v Q I rx (i _ _ _ q)
theorem MtR.imp {id : String} {r r' : V → List V → Hp → VK → Prop} (h : MtR X id r) (i : ∀ x xs H Q, r' x xs H Q → r x xs H Q) : MtR X id r' := fun pins s σ H x xs v us Q I rx rs q => h pins s σ H x xs v us Q I rx rs (i _ _ _ _ q)
end

/-! ### the judgements -/
abbrev QE (X : Cx) (e : Expr) (t : TE3) : Prop := PE X e (low X.K t)
abbrev QT (X : Cx) (e : Expr) (t : TT3) : Prop := PT X e (lowT X.K t)
abbrev QW (X : Cx) (e : Expr) (t : TT3) : Prop := PW X e (lowT X.K t)
abbrev QA (X : Cx) (es : List Expr) (t : TA3) : Prop := PA X es (lowA X.K t)
abbrev QS (X : Cx) (st : Stmt) (t : TS3) : Prop := PS X st (lowS X.K t)
abbrev QSs (X : Cx) (sts : List Stmt) (t : TS3) : Prop := PSs X sts (lowS X.K t)
abbrev QG (X : Cx) (e : Expr) (t : TG3) : Prop := PG X e (lowG X.K t)
abbrev QGs (X : Cx) (es : List Expr) (t : TGs3) : Prop := PGs X es (lowGs X.K t)
abbrev QI (X : Cx) (tg e : Expr) (t : TI3) : Prop := PI X tg e (lowI X.K t)
abbrev OQ (X : Cx) (f : Value → Value → Sem Value) (r : R3) : Prop := OpR X f (lowR X.K r)
abbrev IQ (X : Cx) (r : R3) : Prop := IxR X (lowR X.K r)
abbrev UQ (X : Cx) (f : Value → Sem Value) (r : U3) : Prop := UnR X f (lowU X.K r)
abbrev CQ (X : Cx) (f : Value) (r : C3) : Prop := CallR X f (lowC X.K r)

/-! ### names, constants, operators -/
def tVar3 (i : Nat) : TE3 := fun env S Q => match at3 env i with
  | some d => Q d S
  | none => False
def tC3 (d : PyData) : TE3 := fun _ S Q => Q (.p d) S
def tOp3 (r : R3) (ta tb : TE3) : TE3 := fun env S Q => ta env S fun x S1 => tb env S1 fun y S2 => r x y S2 Q
def tUn3 (r : U3) (ta : TE3) : TE3 := fun env S Q => ta env S fun x S1 => r x S1 Q
def tNil3 : TA3 := fun _ S Q => Q [] S
def tCons3 (ta : TE3) (tr : TA3) : TA3 := fun env S Q => ta env S fun x S1 => tr env S1 fun xs S2 => Q (x :: xs) S2
def tCB3 (r : C3) (t : TA3) : TE3 := fun env S Q => t env S fun ds S1 => r ds S1 Q
section
variable {X : Cx} {a b c : Expr} {es : List Expr} {ta tb tc : TE3} {tr : TA3} {pos : Pos}
theorem qv (i : Nat) {x : Str} {pos : Pos} (hN : X.N[i]? = some x := by rfl) (hv : Vis X.env.scope x := by first | exact Or.inl rfl | exact Or.inr (Or.inl rfl) | exact Or.inr (Or.inr rfl)) (hd : (x == ("__debug__" : Str)) = false := by decide)
    (hcd : (x == ("__classdict__" : Str)) = false := by decide) : QE X (.Name x pos) (tVar3 i) := (pe_var hN hv hd hcd).imp fun σ H R ⟨w, env, S, Q, r, en, t, q⟩ => by
  unfold tVar3 at t
  cases h : at3 env i with
  | none => rw [h] at t; exact t.elim
  | some d =>
    rw [h] at t
    obtain ⟨v, h1, h2⟩ := en.2 i d h
    exact ⟨v, h1, q w v d H S (Ex3.refl w) r h2 t⟩
theorem qe_c {v : V} {d : PyData} (h : PE X a (tC v)) (hd : ∀ K H, Dp K H v d) : QE X a (tC3 d) := L2.PE.imp h fun σ H R ⟨w, env, S, Q, r, en, t, q⟩ => q w v (.p d) H S (Ex3.refl w) r (hd _ _) t
theorem qe_int {i j pos} : QE X (.Constant (.int i) j pos) (tC3 (.int i)) := qe_c pe_int fun _ _ => .int i
theorem qe_bl {i j pos} : QE X (.Constant (.bool i) j pos) (tC3 (.bool i)) := qe_c pe_bl fun _ _ => .bl i
theorem qe_non {j pos} : QE X (.Constant .none j pos) (tC3 .none) := qe_c pe_non fun _ _ => .non
theorem qe_str {x j pos} : QE X (.Constant (.str x) j pos) (tC3 (.str x)) := qe_c pe_str fun _ _ => .str x
/-- a module's constant -/
theorem qe_glob {x : Str} {v : V} {u : Value} {d : PyData} {pos : Pos} (hg : Gl X x) (hm : X.mg x = some u) (r : RelV v u) (hd : ∀ H, Dp X.K H v d) (hdb : (x == ("__debug__" : Str)) = false := by decide) : QE X (.Name x pos) (tC3 d) :=
  L2.PE.imp (pe_glob hg hm r hdb) fun σ H R ⟨w, env, S, Q, r, en, t, q⟩ => q w v (.p d) H S (Ex3.refl w) r (hd _) t

theorem low2 {K : PySem.W.Frag} {r : R3} {σ : L2.St} {H : Hp} {R : VK} (h : low K (tOp3 r ta tb) σ H R) : tOp (lowR K r) (low K ta) (low K tb) σ H R := by
  obtain ⟨w, env, S, Q, r0, en, t, q⟩ := h
  refine ⟨w, env, S, _, r0, en, t, fun w1 v1 d1 H1 S1 e1 r1 p1 t1 => ?_⟩
  refine ⟨w1, env, S1, _, r1, en.mono e1, t1, fun w2 v2 d2 H2 S2 e2 r2 p2 t2 => ?_⟩
  exact ⟨w2, S2, d1, d2, Q, r2, p1.mono e2, p2, t2, q.mono (e1.trans e2)⟩
theorem qe_op {op : Operator} {r : R3} (ho : OQ X (binaryOp op) r) (ha : QE X a ta) (hb : QE X b tb) : QE X (.BinOp a op b pos) (tOp3 r ta tb) := (pe_op ho ha hb).imp fun _ _ _ => low2
theorem qe_un {op : UnaryOp} {r : U3} (ho : UQ X (unaryOp op) r) (ha : QE X a ta) : QE X (.UnaryOp op a pos) (tUn3 r ta) := (pe_un ho ha).imp fun σ H R ⟨w, env, S, Q, r0, en, t, q⟩ =>
  ⟨w, env, S, _, r0, en, t, fun w1 v1 d1 H1 S1 e1 r1 p1 t1 => ⟨w1, S1, d1, Q, r1, p1, t1, q.mono e1⟩⟩
theorem qe_ix {r : R3} (hr : IQ X r) (ha : QE X a ta) (hb : QE X b tb) (hs : PlainIx b := by exact fun _ _ => rfl) : QE X (.Subscript a b pos) (tOp3 r ta tb) := (pe_ix hr ha hb hs).imp fun _ _ _ => low2
theorem qe_cmp {op : CmpOp} {r : R3} (ho : OQ X (compareOp op) r) (ha : QE X a ta) (hb : QE X b tb) (hm : behindInMarks op b = false := by first | exact nomark _ | rfl) : QE X (.Compare a [op] [b] pos) (tOp3 r ta tb) := (pe_cmpR ho ha hb hm).imp fun _ _ _ => low2
def tTest3 (t : TE3) : TT3 := fun env S Q => t env S fun x S1 => match x with
  | .p (.bool c) => Q c S1
  | _ => False
theorem dp_bl {K : PySem.W.Frag} {w : W3} {v : V} {b : Bool} (h : RepD K w v (.p (.bool b))) : v = .bl b := by
  have h' : Dp K w.h v (.bool b) := h
  cases h'
  rfl
theorem dp_int {K : PySem.W.Frag} {w : W3} {v : V} {b : Int} (h : RepD K w v (.p (.int b))) : v = .int b := by
  have h' : Dp K w.h v (.int b) := h
  cases h'
  rfl
theorem dp_str {K : PySem.W.Frag} {w : W3} {v : V} {b : Str} (h : RepD K w v (.p (.str b))) : v = .str b := by
  have h' : Dp K w.h v (.str b) := h
  cases h'
  rfl
theorem dp_non {K : PySem.W.Frag} {w : W3} {v : V} (h : RepD K w v (.p .none)) : v = .non := by
  have h' : Dp K w.h v .none := h
  cases h'
  rfl
theorem rep_int {K : PySem.W.Frag} {w : W3} {i : Int} : RepD K w (.int i) (.p (.int i)) := Dp.int i
theorem rep_bl {K : PySem.W.Frag} {w : W3} {i : Bool} : RepD K w (.bl i) (.p (.bool i)) := Dp.bl i
theorem rep_str {K : PySem.W.Frag} {w : W3} {i : Str} : RepD K w (.str i) (.p (.str i)) := Dp.str i
theorem rep_non {K : PySem.W.Frag} {w : W3} : RepD K w .non (.p .none) := Dp.non
theorem test_low {K : PySem.W.Frag} {t : TE3} {t2 : TE} {σ : L2.St} {H : Hp} {R : Bool → Hp → Prop} (h2 : ∀ R', low K t σ H R' → t2 σ H R') (h : lowT K (tTest3 t) σ H R) : t2 σ H fun x H' => ∃ k, x = .bl k ∧ R k H' := by
  obtain ⟨w, env, S, Q, r0, en, t, q⟩ := h
  refine h2 _ ⟨w, env, S, _, r0, en, t, fun w1 v1 d1 H1 S1 e1 r1 p1 t1 => ?_⟩
  cases d1 with
  | loc n | exc n => exact t1.elim
  | p d =>
    cases d with
    | bool c => exact ⟨c, dp_bl p1, q w1 c H1 S1 e1 r1 t1⟩
    | _ => exact t1.elim
theorem qt_cmp {op : CmpOp} {r : R3} (ho : OQ X (compareOp op) r) (ha : QE X a ta) (hb : QE X b tb) (hm : behindInMarks op b = false := by first | exact nomark _ | rfl) : QT X (.Compare a [op] [b] pos) (tTest3 (tOp3 r ta tb)) :=
  (pt_cmpR ho ha hb hm).imp fun σ H R h => test_low (fun R' => low2) h
def tChain3 (r r' : R3) (ta tb tc : TE3) : TE3 := fun env S Q => ta env S fun x S1 => tb env S1 fun y S2 => r x y S2 fun z S3 => match z with
  | .p (.bool k) => if k = true then tc env S3 fun v S4 => r' y v S4 Q else Q (.p (.bool false)) S3
  | _ => False
theorem low_chain {K : PySem.W.Frag} {r r' : R3} {σ : L2.St} {H : Hp} {R : VK} (h : low K (tChain3 r r' ta tb tc) σ H R) : tChain (lowR K r) (lowR K r') (low K ta) (low K tb) (low K tc) σ H R := by
  obtain ⟨w, env, S, Q, r0, en, t, q⟩ := h
  refine ⟨w, env, S, _, r0, en, t, fun w1 v1 d1 H1 S1 e1 r1 p1 t1 => ?_⟩
  refine ⟨w1, env, S1, _, r1, en.mono e1, t1, fun w2 v2 d2 H2 S2 e2 r2 p2 t2 => ?_⟩
  refine ⟨w2, S2, d1, d2, _, r2, p1.mono e2, p2, t2, fun w3 v3 d3 H3 S3 e3 r3 p3 t3 => ?_⟩
  cases d3 with
  | loc n | exc n => exact t3.elim
  | p d =>
    cases d with
    | bool k =>
      refine ⟨k, dp_bl p3, ?_⟩
      cases k with
      | true =>
        simp only [if_true] at t3
        rw [if_pos rfl]
        refine ⟨w3, env, S3, _, r3, en.mono ((e1.trans e2).trans e3), t3, fun w4 v4 d4 H4 S4 e4 r4 p4 t4 => ?_⟩
        exact ⟨w4, S4, d2, d4, Q, r4, p2.mono (e3.trans e4), p4, t4, q.mono (((e1.trans e2).trans e3).trans e4)⟩
      | false =>
        simp only [Bool.false_eq_true, if_false] at t3
        rw [if_neg Bool.false_ne_true]
        exact q w3 _ _ H3 S3 ((e1.trans e2).trans e3) r3 rep_bl t3
    | _ => exact t3.elim
theorem qe_chain {op op' : CmpOp} {r r' : R3} (ho : OQ X (compareOp op) r) (ho' : OQ X (compareOp op') r') (ha : QE X a ta) (hb : QE X b tb) (hc : QE X c tc)
    (hm : lastMarks [op, op'] [b, c] = false := by with_unfolding_all rfl) : QE X (.Compare a [op, op'] [b, c] pos) (tChain3 r r' ta tb tc) := (pe_chain ho ho' ha hb hc hm).imp fun _ _ _ => low_chain
theorem qt_chain {op op' : CmpOp} {r r' : R3} (ho : OQ X (compareOp op) r) (ho' : OQ X (compareOp op') r') (ha : QE X a ta) (hb : QE X b tb) (hc : QE X c tc)
    (hm : lastMarks [op, op'] [b, c] = false := by with_unfolding_all rfl) : QT X (.Compare a [op, op'] [b, c] pos) (tTest3 (tChain3 r r' ta tb tc)) := (pt_chain ho ho' ha hb hc hm).imp fun σ H R h => test_low (fun R' => low_chain) h
/-- an expression that gives a truth, as a test -/
theorem qt_val {e : Expr} {t : TE3} (h : QE X e t) (he : ∀ whole, isTrue e X.env whole = (do let v ← whole; standAt e.pos; holding [v] (truthy v)) := by intro _; rfl) : QT X e (tTest3 t) :=
  (pt_val h he).imp fun σ H R h => test_low (t2 := low X.K t) (fun R' q => q) h

/-! and, or, not, if -/
def tAnd3 (t u : TT3) : TT3 := fun env S Q => t env S fun c S1 => if c = true then u env S1 Q else Q false S1
def tOr3 (t u : TT3) : TT3 := fun env S Q => t env S fun c S1 => if c = true then Q true S1 else u env S1 Q
def tNot3 (t : TT3) : TT3 := fun env S Q => t env S fun c S1 => Q (!c) S1
variable {tA tB' : TT3} {rest : List Expr}
theorem qw_and1 (ha : QT X a tA) : QW X (.BoolOp .And [a] pos) tA := pw_and1 ha
theorem qw_or1 (ha : QT X a tA) : QW X (.BoolOp .Or [a] pos) tA := pw_or1 ha
theorem qw_and (ha : QT X a tA) (hb : QW X (.BoolOp .And (b :: rest) pos) tB') : QW X (.BoolOp .And (a :: b :: rest) pos) (tAnd3 tA tB') := (pw_and ha hb).imp fun σ H R ⟨w, env, S, Q, r0, en, t, q⟩ => by
  refine ⟨w, env, S, _, r0, en, t, fun w1 c H1 S1 e1 r1 t1 => ?_⟩
  cases c with
  | true =>
    rw [if_pos rfl] at t1 ⊢
    exact ⟨w1, env, S1, Q, r1, en.mono e1, t1, q.mono e1⟩
  | false =>
    rw [if_neg Bool.false_ne_true] at t1 ⊢
    exact q w1 false H1 S1 e1 r1 t1
theorem qw_or (ha : QT X a tA) (hb : QW X (.BoolOp .Or (b :: rest) pos) tB') : QW X (.BoolOp .Or (a :: b :: rest) pos) (tOr3 tA tB') := (pw_or ha hb).imp fun σ H R ⟨w, env, S, Q, r0, en, t, q⟩ => by
  refine ⟨w, env, S, _, r0, en, t, fun w1 c H1 S1 e1 r1 t1 => ?_⟩
  cases c with
  | false =>
    rw [if_neg Bool.false_ne_true] at t1 ⊢
    exact ⟨w1, env, S1, Q, r1, en.mono e1, t1, q.mono e1⟩
  | true =>
    rw [if_pos rfl] at t1 ⊢
    exact q w1 true H1 S1 e1 r1 t1
theorem qt_w (h : QW X a tA) : QT X a tA := PW.pt h
theorem qt_not (ha : QT X a tA) : QT X (.UnaryOp .Not a pos) (tNot3 tA) := (pt_not ha).imp fun σ H R ⟨w, env, S, Q, r0, en, t, q⟩ =>
  ⟨w, env, S, _, r0, en, t, fun w1 c H1 S1 e1 r1 t1 => q w1 (!c) H1 S1 e1 r1 t1⟩
def tAndV3 (ta tb : TE3) : TE3 := fun env S Q => ta env S fun x S1 => match x with
  | .p (.bool k) => if k = true then tb env S1 Q else Q (.p (.bool false)) S1
  | _ => False
def tOrV3 (ta tb : TE3) : TE3 := fun env S Q => ta env S fun x S1 => match x with
  | .p (.bool k) => if k = true then Q (.p (.bool true)) S1 else tb env S1 Q
  | _ => False
def tNotV3 (ta : TE3) : TE3 := fun env S Q => ta env S fun x S1 => match x with
  | .p (.bool c) => Q (.p (.bool (!c))) S1
  | _ => False
theorem qe_one {op} {t : TE3} (h : QE X a t) : QE X (.BoolOp op [a] pos) t := pe_one h
theorem qe_and (ha : QE X a ta) (hb : QE X (.BoolOp .And (b :: rest) pos) tb) : QE X (.BoolOp .And (a :: b :: rest) pos) (tAndV3 ta tb) := (pe_and ha hb).imp fun σ H R ⟨w, env, S, Q, r0, en, t, q⟩ => by
  refine ⟨w, env, S, _, r0, en, t, fun w1 v1 d1 H1 S1 e1 r1 p1 t1 => ?_⟩
  cases d1 with
  | loc n | exc n => exact t1.elim
  | p d =>
    cases d with
    | bool k =>
      refine ⟨k, dp_bl p1, ?_⟩
      cases k with
      | true =>
        simp only [if_true] at t1
        rw [if_pos rfl]
        exact ⟨w1, env, S1, Q, r1, en.mono e1, t1, q.mono e1⟩
      | false =>
        simp only [Bool.false_eq_true, if_false] at t1
        rw [if_neg Bool.false_ne_true]
        exact q w1 _ _ H1 S1 e1 r1 rep_bl t1
    | _ => exact t1.elim
theorem qe_or (ha : QE X a ta) (hb : QE X (.BoolOp .Or (b :: rest) pos) tb) : QE X (.BoolOp .Or (a :: b :: rest) pos) (tOrV3 ta tb) := (pe_or ha hb).imp fun σ H R ⟨w, env, S, Q, r0, en, t, q⟩ => by
  refine ⟨w, env, S, _, r0, en, t, fun w1 v1 d1 H1 S1 e1 r1 p1 t1 => ?_⟩
  cases d1 with
  | loc n | exc n => exact t1.elim
  | p d =>
    cases d with
    | bool k =>
      refine ⟨k, dp_bl p1, ?_⟩
      cases k with
      | false =>
        simp only [Bool.false_eq_true, if_false] at t1
        rw [if_neg Bool.false_ne_true]
        exact ⟨w1, env, S1, Q, r1, en.mono e1, t1, q.mono e1⟩
      | true =>
        simp only [if_true] at t1
        rw [if_pos rfl]
        exact q w1 _ _ H1 S1 e1 r1 rep_bl t1
    | _ => exact t1.elim
theorem qe_not (ha : QE X a ta) : QE X (.UnaryOp .Not a pos) (tNotV3 ta) := (pe_not ha).imp fun σ H R ⟨w, env, S, Q, r0, en, t, q⟩ => by
  refine ⟨w, env, S, _, r0, en, t, fun w1 v1 d1 H1 S1 e1 r1 p1 t1 => ?_⟩
  cases d1 with
  | loc n | exc n => exact t1.elim
  | p d =>
    cases d with
    | bool k => exact ⟨k, dp_bl p1, q w1 _ _ H1 S1 e1 r1 rep_bl t1⟩
    | _ => exact t1.elim
def tIf3 (t : TT3) (ta tb : TE3) : TE3 := fun env S Q => t env S fun c S1 => if c = true then ta env S1 Q else tb env S1 Q
theorem qe_if (hc : QT X c tA) (ha : QE X a ta) (hb : QE X b tb) : QE X (.IfExp c a b pos) (tIf3 tA ta tb) := (pe_ifExp hc ha hb).imp fun σ H R ⟨w, env, S, Q, r0, en, t, q⟩ => by
  refine ⟨w, env, S, _, r0, en, t, fun w1 c H1 S1 e1 r1 t1 => ?_⟩
  cases c with
  | true =>
    rw [if_pos rfl] at t1 ⊢
    exact ⟨w1, env, S1, Q, r1, en.mono e1, t1, q.mono e1⟩
  | false =>
    rw [if_neg Bool.false_ne_true] at t1 ⊢
    exact ⟨w1, env, S1, Q, r1, en.mono e1, t1, q.mono e1⟩

/-! ### arguments, calls of built-ins, displays -/
theorem qa_nil : QA X [] tNil3 := pa_nil.imp fun σ H R ⟨w, env, S, Q, r0, en, t, q⟩ => q w [] [] H S (Ex3.refl w) r0 trivial t
theorem qa_cons (ha : QE X a ta) (hr : QA X es tr) (hs : starEach (a :: es) X.env = (false, eval a X.env) :: starEach es X.env := by rfl) : QA X (a :: es) (tCons3 ta tr) := (pa_cons ha hr hs).imp fun σ H R ⟨w, env, S, Q, r0, en, t, q⟩ => by
  refine ⟨w, env, S, _, r0, en, t, fun w1 v1 d1 H1 S1 e1 r1 p1 t1 => ?_⟩
  refine ⟨w1, env, S1, _, r1, en.mono e1, t1, fun w2 vs ds H2 S2 e2 r2 p2 t2 => ?_⟩
  exact q w2 (v1 :: vs) (d1 :: ds) H2 S2 (e1.trans e2) r2 ⟨p1.mono e2, p2⟩ t2
theorem lowCB {K : PySem.W.Frag} {r : C3} {t : TA3} {σ : L2.St} {H : Hp} {R : VK} (h : low K (tCB3 r t) σ H R) : tCB (lowC K r) (lowA K t) σ H R := by
  obtain ⟨w, env, S, Q, r0, en, t, q⟩ := h
  exact ⟨w, env, S, _, r0, en, t, fun w1 vs ds H1 S1 e1 r1 p1 t1 => ⟨w1, S1, ds, Q, r1, p1, t1, q.mono e1⟩⟩
theorem qe_cb {id : String} {x : Str} {p : Pos} {r : C3} (hc : CQ X (.builtin id) r) (hg : Gl X x) (hm : X.mg x = none) (hv : bootBuiltins x = some (.builtin id)) (ha : QA X (a :: es) tr) (hn : x ≠ "__name__" := by decide) (hdb : (x == ("__debug__" : Str)) = false := by decide)
    (he : starEach (a :: es) X.env = (false, eval a X.env) :: starEach es X.env := by rfl) (hpl : (backTo pos (starEach es X.env)).any (·.1) = false := by rfl) : QE X (.Call (.Name x p) (a :: es) [] pos) (tCB3 r tr) :=
  (pe_callB hc hg hm hv ha hn hdb he hpl).imp fun _ _ _ => lowCB
theorem qe_ty {T : String} {x : Str} {p : Pos} {r : C3} (hc : CQ X (.type T) r) (hg : Gl X x) (hm : X.mg x = none) (hv : bootBuiltins x = some (.type T)) (ha : QA X (a :: es) tr) (hn : x ≠ "__name__" := by decide) (hdb : (x == ("__debug__" : Str)) = false := by decide)
    (he : starEach (a :: es) X.env = (false, eval a X.env) :: starEach es X.env := by rfl) (hpl : (backTo pos (starEach es X.env)).any (·.1) = false := by rfl) : QE X (.Call (.Name x p) (a :: es) [] pos) (tCB3 r tr) :=
  (pe_callTy hc hg hm hv ha hn hdb he hpl).imp fun _ _ _ => lowCB
end
def pures : List D → Option (List PyData)
  | [] => some []
  | .p d :: r => match pures r with
    | some ds => some (d :: ds)
    | none => none
  | _ :: _ => none
section
variable {K : PySem.W.Frag} {w : W3}
theorem pures_all : ∀ {vs : List V} {ds : List D} {es : List PyData}, RepDs K w vs ds → pures ds = some es → DpAll K w.h vs es
  | [], [], es, _, h => by cases h; exact .nil
  | v :: vs, .p d :: ds, es, r, h => by
    unfold pures at h
    cases q : pures ds with
    | none => rw [q] at h; cases h
    | some fs =>
      rw [q] at h
      cases h
      exact .cons r.1 (pures_all r.2 q)
  | v :: vs, .loc n :: ds, es, r, h => by unfold pures at h; cases h
  | [], _ :: _, _, r, _ => r.elim
  | _ :: _, [], _, r, _ => r.elim
end
def tTup3 (t : TA3) : TE3 := fun env S Q => t env S fun ds S1 => match pures ds with
  | some es => es.length ≤ sizeLine ∧ Q (.p (.tuple es)) S1
  | none => False
section
variable {X : Cx} {es : List Expr} {tr : TA3} {pos : Pos}
theorem qe_tup {x1} (h : QA X es tr) : QE X (.Tuple es x1 pos) (tTup3 tr) := (pe_tup h).imp fun σ H R ⟨w, env, S, Q, r0, en, t, q⟩ => by
  refine ⟨w, env, S, _, r0, en, t, fun w1 vs ds H1 S1 e1 r1 p1 t1 => ?_⟩
  cases hp : pures ds with
  | none => rw [hp] at t1; exact t1.elim
  | some xs =>
    rw [hp] at t1
    have ha := pures_all p1 hp
    have hl := DpAll.length ha
    refine ⟨by rw [hl]; exact t1.1, fun p hn => ?_⟩
    obtain ⟨r2, e2⟩ := r1.frz (u := .tup vs) hn (by show vs.length ≤ _; rw [hl]; exact t1.1)
    exact q _ (.ref p) (.p (.tuple xs)) _ S1 (e1.trans e2) r2 (Dp.tup (.inl (.inl upd_same)) (dpAll_mono e2.h xs vs ha)) t1.2
/-! ### an expression that makes a new list: it stays as it is, or it is an object of the store -/
abbrev TN3 := E3 → S3 → (List PyData → S3 → Prop) → Prop
def EndNew (K : PySem.W.Frag) (w : W3) (Q : List PyData → S3 → Prop) (R : VK) : Prop := ∀ w' p xs ds H' S', Ex3 w w' → Rel3 K w' H' S' → H' p = none → DpAll K w'.h xs ds → ds.length ≤ sizeLine → Q ds S' → R (.ref p) (upd H' p (.lst xs))
def lowN (K : PySem.W.Frag) (t : TN3) : TE := fun σ H R => ∃ w env S Q, Rel3 K w H S ∧ EnvR K w σ env ∧ t env S Q ∧ EndNew K w Q R
abbrev QN (X : Cx) (e : Expr) (t : TN3) : Prop := PE X e (lowN X.K t)
def tPure (t : TN3) : TE3 := fun env S Q => t env S fun ds S1 => Q (.p (.list ds)) S1
def tOwn (t : TN3) : TE3 := fun env S Q => t env S fun ds S1 => Q (.loc S1.length) (S1 ++ [some (.lst ds)])
theorem qn_pure {e : Expr} {t : TN3} (h : QN X e t) : QE X e (tPure t) := L2.PE.imp h fun σ H R ⟨w, env, S, Q, r0, en, t, q⟩ => by
  refine ⟨w, env, S, _, r0, en, t, fun w1 p xs ds H1 S1 e1 r1 hn ha hz t1 => ?_⟩
  have hl := DpAll.length ha
  obtain ⟨r2, e2⟩ := r1.frz (u := .lst xs) hn (by show xs.length ≤ _; rw [hl]; exact hz)
  exact q _ (.ref p) (.p (.list ds)) _ S1 (e1.trans e2) r2 (Dp.lst (.inl (.inl upd_same)) (dpAll_mono e2.h ds xs ha)) t1
theorem qn_own {e : Expr} {t : TN3} (h : QN X e t) : QE X e (tOwn t) := L2.PE.imp h fun σ H R ⟨w, env, S, Q, r0, en, t, q⟩ => by
  refine ⟨w, env, S, _, r0, en, t, fun w1 p xs ds H1 S1 e1 r1 hn ha hz t1 => ?_⟩
  obtain ⟨r2, e2⟩ := r1.push (u := .lst xs) (o := .lst ds) hn ⟨xs, rfl, ha, hz⟩
  refine q _ (.ref p) (.loc S1.length) _ _ (e1.trans e2) r2 ⟨p, ?_, rfl⟩ t1
  show (w1.al ++ [p])[S1.length]? = some p
  rw [← r1.len, List.getElem?_append_right (Nat.le_refl _)]
  simp
def tLst3 (t : TA3) : TN3 := fun env S Q => t env S fun ds S1 => match pures ds with
  | some es => es.length ≤ sizeLine ∧ Q es S1
  | none => False
theorem qn_lst (h : QA X es tr) : QN X (.List es pos) (tLst3 tr) := (pe_lst h).imp fun σ H R ⟨w, env, S, Q, r0, en, t, q⟩ => by
  refine ⟨w, env, S, _, r0, en, t, fun w1 vs ds H1 S1 e1 r1 p1 t1 => ?_⟩
  cases hp : pures ds with
  | none => rw [hp] at t1; exact t1.elim
  | some xs =>
    rw [hp] at t1
    have ha := pures_all p1 hp
    have hl := DpAll.length ha
    exact ⟨by rw [hl]; exact t1.1, fun p hn => q w1 p vs xs H1 S1 e1 r1 hn ha t1.1 t1.2⟩
end
end L3

namespace L3
open PySem PySem.Spec PyProof.Rows L2
/-! ### statements -/
section
variable {K : PySem.W.Frag} {w : W3} {H : Hp} {S : S3} {σ : L2.St} {env : E3}
theorem EnvR.put {v : V} {d : D} {i : Nat} (h : EnvR K w σ env) (hi : σ[i]? = some (some v)) (r : RepD K w v d) : EnvR K w σ (set3 env i d) := by
  refine ⟨by rw [set3_length]; exact h.1, fun j e q => ?_⟩
  rw [at3_set] at q
  by_cases hj : j = i ∧ i < env.length
  · rw [if_pos hj] at q
    cases q
    rw [hj.1]
    exact ⟨v, hi, r⟩
  · rw [if_neg hj] at q
    exact h.2 j e q
theorem EndS.at {D3 : N3} {D2 : Ends} (h : EndS K w D3 D2) : EndS K w D3 D2 := h
end
def tNext3 : TS3 := fun D env S => D.nx env S
def tSeq3 (t u : TS3) : TS3 := fun D env S => t { D with nx := fun e s => u D e s } env S
def tDrop3 (te : TE3) : TS3 := fun D env S => te env S fun _ S1 => D.nx env S1
def tRet3 (te : TE3) : TS3 := fun D env S => te env S D.rt
def tRetN3 : TS3 := fun D _ S => D.rt (.p .none) S
def tBreak3 : TS3 := fun D env S => D.bk env S
def tCont3 : TS3 := fun D env S => D.ct env S
def tIfS3 (c : TT3) (t u : TS3) : TS3 := fun D env S => c env S fun b S1 => if b = true then t D env S1 else u D env S1
def tNever3 : TS3 := fun _ _ _ => False
/-- an own list in slot i is said to change no more -/
def tFrz3 (i : Nat) (u : TS3) : TS3 := fun D env S => match at3 env i with
  | some (.loc n) => ∃ ds, S[n]? = some (some (.lst ds)) ∧ u D (set3 env i (.p (.list ds))) (S.set n none)
  | _ => False
section
variable {X : Cx} {st : Stmt} {rest a b : List Stmt} {t u : TS3} {e c : Expr} {te : TE3} {tc : TT3} {pos : Pos}
theorem qss_nil : QSs X [] tNext3 := pss_nil.imp fun D σ H ⟨w, env, S, D3, r, en, t, q⟩ => q.nx w σ H env S (Ex3.refl w) r en t
theorem qss_cons (h1 : QS X st t) (h2 : QSs X rest u) : QSs X (st :: rest) (tSeq3 t u) := (pss_cons h1 h2).imp fun D σ H ⟨w, env, S, D3, r, en, t, q⟩ =>
  ⟨w, env, S, _, r, en, t, ⟨fun w1 σ1 H1 env1 S1 e1 r1 en1 t1 => ⟨w1, env1, S1, D3, r1, en1, t1, q.mono e1⟩, q.rt, q.bk, q.ct⟩⟩
theorem qss_one (h1 : QS X st t) : QSs X [st] t := pss_one h1
theorem qs_pass : QS X (.Pass pos) tNext3 := ps_pass.imp fun D σ H ⟨w, env, S, D3, r, en, t, q⟩ => q.nx w σ H env S (Ex3.refl w) r en t
theorem qs_break : QS X (.Break pos) tBreak3 := ps_break.imp fun D σ H ⟨w, env, S, D3, r, en, t, q⟩ => q.bk w σ H env S (Ex3.refl w) r en t
theorem qs_continue : QS X (.Continue pos) tCont3 := ps_continue.imp fun D σ H ⟨w, env, S, D3, r, en, t, q⟩ => q.ct w σ H env S (Ex3.refl w) r en t
theorem qs_expr (he : QE X e te) (hs : swapsWith e none pos.line X.env = pure false := by rfl) : QS X (.Expr e pos) (tDrop3 te) := (ps_expr he hs).imp fun D σ H ⟨w, env, S, D3, r, en, t, q⟩ =>
  ⟨w, env, S, _, r, en, t, fun w1 v d H1 S1 e1 r1 p1 t1 => q.nx w1 σ H1 env S1 e1 r1 (en.mono e1) t1⟩
theorem qs_ret (he : QE X e te) : QS X (.Return (some e) pos) (tRet3 te) := (ps_ret he).imp fun D σ H ⟨w, env, S, D3, r, en, t, q⟩ => ⟨w, env, S, _, r, en, t, q.rt⟩
theorem qs_retN : QS X (.Return none pos) tRetN3 := ps_retN.imp fun D σ H ⟨w, env, S, D3, r, en, t, q⟩ => q.rt w .non (.p .none) H S (Ex3.refl w) r rep_non t
theorem qs_if (hc : QT X c tc) (ha : QSs X a t) (hb : QSs X b u) : QS X (.If c a b pos) (tIfS3 tc t u) := (ps_if hc ha hb).imp fun D σ H ⟨w, env, S, D3, r, en, t, q⟩ => by
  refine ⟨w, env, S, _, r, en, t, fun w1 b H1 S1 e1 r1 t1 => ?_⟩
  cases b with
  | true =>
    rw [if_pos rfl] at t1 ⊢
    exact ⟨w1, env, S1, D3, r1, en.mono e1, t1, q.mono e1⟩
  | false =>
    rw [if_neg Bool.false_ne_true] at t1 ⊢
    exact ⟨w1, env, S1, D3, r1, en.mono e1, t1, q.mono e1⟩
theorem qs_never : QS X st tNever3 := ps_never.imp fun D σ H ⟨w, env, S, D3, r, en, t, q⟩ => t.elim
theorem qss_never : QSs X rest tNever3 := pss_never.imp fun D σ H ⟨w, env, S, D3, r, en, t, q⟩ => t.elim
theorem qss_frz (i : Nat) (h : QSs X rest u) : QSs X rest (tFrz3 i u) := L2.PSs.imp h fun D σ H ⟨w, env, S, D3, r, en, t, q⟩ => by
  unfold tFrz3 at t
  split at t
  · rename_i n hn
    obtain ⟨ds, hs, t⟩ := t
    obtain ⟨v, hv, a, ha, rfl⟩ := en.2 i _ hn
    obtain ⟨u', r1, e1, d1⟩ := r.freeze ha hs
    exact ⟨_, _, _, D3, r1, (en.mono e1).put (d := .p (.list ds)) hv d1, t, q.mono e1⟩
  · exact t.elim
end

/-! ### targets: names, tuples of targets -/
mutual
inductive Tg where
  | nm (i : Nat)
  | tup (ts : Tgs)
inductive Tgs where
  | nil
  | cons (t : Tg) (r : Tgs)
end
def Tgs.len : Tgs → Nat
  | .nil => 0
  | .cons _ r => r.len + 1
mutual
def Tg.slots : Tg → List Nat
  | .nm i => [i]
  | .tup ts => ts.slots
def Tgs.slots : Tgs → List Nat
  | .nil => []
  | .cons t r => t.slots ++ r.slots
end
mutual
def g2 (K : PySem.W.Frag) : Tg → TG
  | .nm i => gName i
  | .tup ts => gTup K ts.len (gs2 K ts)
def gs2 (K : PySem.W.Frag) : Tgs → TGs
  | .nil => gNil
  | .cons t r => gCons (g2 K t) (gs2 K r)
end
mutual
def bind3 : Tg → PyData → E3 → Option E3
  | .nm i, d, env => some (set3 env i (.p d))
  | .tup ts, .tuple ds, env => binds3 ts ds env
  | .tup _, _, _ => none
def binds3 : Tgs → List PyData → E3 → Option E3
  | .nil, [], env => some env
  | .cons t r, d :: ds, env => match bind3 t d env with
    | some env1 => binds3 r ds env1
    | none => none
  | _, _, _ => none
end
abbrev QB (X : Cx) (tg : Expr) (T : Tg) : Prop := PG X tg (g2 X.K T)
abbrev QBs (X : Cx) (tgs : List Expr) (T : Tgs) : Prop := PGs X tgs (gs2 X.K T)
section
variable {X : Cx} {pos : Pos}
theorem qb_nm {i : Nat} {x : Str} (hN : X.N.Nodup) (hi : X.N[i]? = some x) (hx : Loc X.env.scope x) (hf : X.fn x = true ∨ X.env.scope.names.lookup x = some .local := by first | exact .inl rfl | exact .inr rfl | assumption) : QB X (.Name x pos) (.nm i) := pg_name hN hi hx hf
theorem qbs_nil : QBs X [] .nil := pgs_nil
theorem qbs_cons {e : Expr} {es : List Expr} {t : Tg} {r : Tgs} (h1 : QB X e t) (h2 : QBs X es r)
    (hs : (assignEach (e :: es) X.env).map (·.2) = assign e X.env :: (assignEach es X.env).map (·.2) := by rfl) : QBs X (e :: es) (.cons t r) := pgs_cons h1 h2 hs
theorem qb_tup {es : List Expr} {k : Nat} {ts : Tgs} (hc : X.calm = true) (h : QBs X es ts)
    (hn : (assignEach es X.env).length = ts.len := by rfl) (hst : (assignEach es X.env).findIdx? (·.1) = none := by rfl) : QB X (.Tuple es k pos) (.tup ts) := pg_tup hc h hn hst
end
theorem wipe_set_mem {v : Option V} : ∀ (σ : L2.St) (vs : List Nat) (i : Nat), i ∈ vs → wipe (σ.set i v) vs = wipe σ vs
  | σ, [], i, h => by cases h
  | σ, j :: vs, i, h => by
    unfold wipe
    by_cases hm : i ∈ vs
    · rw [wipe_set_mem σ vs i hm]
    · have hij : i = j := by
        rcases List.mem_cons.mp h with e | e
        · exact e
        · exact absurd e hm
      subst hij
      have go : ∀ (vs : List Nat), i ∉ vs → wipe (σ.set i v) vs = (wipe σ vs).set i v := by
        intro vs
        induction vs with
        | nil => intro _; rfl
        | cons k vs ih =>
          intro hk
          unfold wipe
          rw [ih fun z => hk (List.mem_cons_of_mem _ z), List.set_comm _ _ fun z => hk (by rw [z]; exact List.mem_cons_self)]
      rw [go vs hm, List.set_set]
theorem wipe_eq : ∀ (σ σ' : L2.St) (vs : List Nat), wipe σ vs = wipe σ' vs → ∀ (i : Nat) (v : Option V), i ∈ vs → wipe (σ.set i v) vs = wipe σ' vs := fun σ σ' vs h i v hi => (wipe_set_mem σ vs i hi).trans h
section
variable {K : PySem.W.Frag} {w : W3} {H : Hp} {S : S3}
mutual
theorem bind_low (r : Rel3 K w H S) (vs : List Nat) : ∀ (T : Tg) (d : PyData) (v : V) (σ : L2.St) (env env2 : E3), (∀ i ∈ T.slots, i ∈ vs) → EnvR K w σ env → Dp K w.h v d → bind3 T d env = some env2 →
    ∀ R : L2.St → Hp → Prop, (∀ σ', EnvR K w σ' env2 → wipe σ' vs = wipe σ vs → R σ' H) → g2 K T v σ H R
  | .nm i, d, v, σ, env, env2, hs, en, dp, hb, R, hR => by
    unfold bind3 at hb
    cases hb
    unfold g2
    exact hR _ (en.set i dp) (wipe_set_mem σ vs i (hs i (by simp [Tg.slots])))
  | .tup ts, .tuple ds, v, σ, env, env2, hs, en, dp, hb, R, hR => by
    unfold bind3 at hb
    cases dp with
    | tup hq ha =>
      unfold g2
      refine ⟨_, _, rfl, Same.sqT r.sub hq, ?_, binds_low r vs ts ds _ σ env env2 (fun i hi => hs i (by unfold Tg.slots; exact hi)) en ha hb R hR⟩
      rw [DpAll.length ha]
      exact binds_len ts ds env env2 hb
  | .tup _, .none, v, σ, env, env2, hs, en, dp, hb, R, hR => by simp [bind3] at hb
  | .tup _, .bool _, v, σ, env, env2, hs, en, dp, hb, R, hR => by simp [bind3] at hb
  | .tup _, .int _, v, σ, env, env2, hs, en, dp, hb, R, hR => by simp [bind3] at hb
  | .tup _, .str _, v, σ, env, env2, hs, en, dp, hb, R, hR => by simp [bind3] at hb
  | .tup _, .list _, v, σ, env, env2, hs, en, dp, hb, R, hR => by simp [bind3] at hb
  | .tup _, .dict _, v, σ, env, env2, hs, en, dp, hb, R, hR => by simp [bind3] at hb
theorem binds_low (r : Rel3 K w H S) (vs : List Nat) : ∀ (T : Tgs) (ds : List PyData) (us : List V) (σ : L2.St) (env env2 : E3), (∀ i ∈ T.slots, i ∈ vs) → EnvR K w σ env → DpAll K w.h us ds → binds3 T ds env = some env2 →
    ∀ R : L2.St → Hp → Prop, (∀ σ', EnvR K w σ' env2 → wipe σ' vs = wipe σ vs → R σ' H) → gs2 K T us σ H R
  | .nil, [], us, σ, env, env2, hs, en, dp, hb, R, hR => by
    unfold binds3 at hb
    cases hb
    cases dp
    unfold gs2
    exact ⟨rfl, hR σ en rfl⟩
  | .cons t q, d :: ds, us, σ, env, env2, hs, en, dp, hb, R, hR => by
    unfold binds3 at hb
    cases h1 : bind3 t d env with
    | none => rw [h1] at hb; cases hb
    | some env1 =>
      rw [h1] at hb
      cases dp with
      | cons dp1 dp2 =>
        unfold gs2
        refine ⟨_, _, rfl, bind_low r vs t d _ σ env env1 (fun i hi => hs i (by unfold Tgs.slots; exact List.mem_append_left _ hi)) en dp1 h1 _ fun σ' en' hw => ?_⟩
        exact binds_low r vs q ds _ σ' env1 env2 (fun i hi => hs i (by unfold Tgs.slots; exact List.mem_append_right _ hi)) en' dp2 hb R fun σ'' en'' hw' => hR σ'' en'' (hw'.trans hw)
  | .nil, _ :: _, us, σ, env, env2, hs, en, dp, hb, R, hR => by simp [binds3] at hb
  | .cons _ _, [], us, σ, env, env2, hs, en, dp, hb, R, hR => by simp [binds3] at hb
theorem binds_len : ∀ (T : Tgs) (ds : List PyData) (env env2 : E3), binds3 T ds env = some env2 → ds.length = T.len
  | .nil, [], _, _, _ => rfl
  | .cons t q, d :: ds, env, env2, hb => by
    unfold binds3 at hb
    cases h1 : bind3 t d env with
    | none => rw [h1] at hb; cases hb
    | some env1 =>
      rw [h1] at hb
      show ds.length + 1 = q.len + 1
      rw [binds_len q ds env1 env2 hb]
  | .nil, _ :: _, env, env2, hb => by simp [binds3] at hb
  | .cons _ _, [], env, env2, hb => by simp [binds3] at hb
end
end
/-- target = e, a target of names -/
def tAsgT3 (te : TE3) (T : Tg) : TS3 := fun D env S => te env S fun x S1 => match x with
  | .p d => match bind3 T d env with
    | some env2 => D.nx env2 S1
    | none => False
  | _ => False
/-- name = e -/
def tSet3 (i : Nat) (te : TE3) : TS3 := fun D env S => te env S fun x S1 => D.nx (set3 env i x) S1
section
variable {X : Cx} {e tg : Expr} {te : TE3} {T : Tg} {pos : Pos}
theorem qs_asgT (he : QE X e te) (hg : QB X tg T) (hs : swapsWithSole [tg] e pos.line X.env = pure false := by rfl) (hw : swappedStores [tg] e X.env = pure none := by rfl)
    (h1 : (assignEach [tg] X.env).map (·.2) = [assign tg X.env] := by rfl) : QS X (.Assign [tg] e pos) (tAsgT3 te T) := (ps_asg he hg hs hw h1).imp fun D σ H ⟨w, env, S, D3, r, en, t, q⟩ => by
  refine ⟨w, env, S, _, r, en, t, fun w1 v d H1 S1 e1 r1 p1 t1 => ?_⟩
  cases d with
  | loc n | exc n => exact t1.elim
  | p d =>
    cases hb : bind3 T d env with
    | none =>
      simp only [hb] at t1
    | some env2 =>
      simp only [hb] at t1
      exact bind_low r1 T.slots T d v σ env env2 (fun _ h => h) (en.mono e1) p1 hb _ fun σ' en' _ => q.nx w1 σ' H1 env2 S1 e1 r1 en' t1
theorem qs_set {i : Nat} {x : Str} {pos' : Pos} (hN : X.N.Nodup) (hi : X.N[i]? = some x) (hx : Loc X.env.scope x) (he : QE X e te) (hs : swapsWith e (some (.Name x pos')) pos.line X.env = pure false := by rfl) (hf : X.fn x = true ∨ X.env.scope.names.lookup x = some .local := by first | exact .inl rfl | exact .inr rfl | assumption) :
    QS X (.Assign [.Name x pos'] e pos) (tSet3 i te) := (ps_set hN hi hx he hs hf).imp fun D σ H ⟨w, env, S, D3, r, en, t, q⟩ =>
  ⟨w, env, S, _, r, en, t, fun w1 v d H1 S1 e1 r1 p1 t1 => q.nx w1 _ H1 _ S1 e1 r1 ((en.mono e1).set i p1) t1⟩
/-- a, b = x, y -/
def tPr3 (i j : Nat) (ta : TA3) : TS3 := fun D env S => ta env S fun ds S1 => match ds with
  | [x, y] => D.nx (set3 (set3 env i x) j y) S1
  | _ => False
theorem qs_par {i j : Nat} {x y : Str} {a b : Expr} {ta : TA3} {px py pt : Pos} {kt k2 pt2} (hc : X.calm = true) (hN : X.N.Nodup) (hi : X.N[i]? = some x) (hj : X.N[j]? = some y) (hij : i ≠ j)
    (hx : X.env.scope.names.lookup x = some .local) (hy : X.env.scope.names.lookup y = some .local) (ha : QA X [a, b] ta)
    (hw : swappedStores [.Tuple [.Name x px, .Name y py] kt pt] (.Tuple [a, b] k2 pt2) X.env = pure (some [x, y]))
    (hs : swapsWithSole [.Tuple [.Name x px, .Name y py] kt pt] (.Tuple [a, b] k2 pt2) pos.line X.env = pure false := by rfl) :
    QS X (.Assign [.Tuple [.Name x px, .Name y py] kt pt] (.Tuple [a, b] k2 pt2) pos) (tPr3 i j ta) := (ps_par hc hN hi hj hij hx hy ha hw hs).imp fun D σ H ⟨w, env, S, D3, r, en, t, q⟩ => by
  refine ⟨w, env, S, _, r, en, t, fun w1 vs ds H1 S1 e1 r1 p1 t1 => ?_⟩
  match vs, ds, p1, t1 with
  | [v, u], [x, y], p1, t1 =>
    exact ⟨v, u, rfl, q.nx w1 _ H1 _ S1 e1 r1 (((en.mono e1).set i p1.1).set j p1.2.1) t1⟩
  | [], [x, y], p1, _ => exact p1.elim
  | [_], [x, y], p1, _ => exact p1.2.elim
  | _ :: _ :: _ :: _, [x, y], p1, _ => exact p1.2.2.elim
end

/-! ### what a loop walks -/
def tSeqI3 (te : TE3) : TI3 := fun env S Q => te env S fun x S1 => match x with
  | .p (.list ds) => Q ds (fun _ => True) S1
  | .p (.tuple ds) => Q ds (fun _ => True) S1
  | .loc n => ∃ ds, S1[n]? = some (some (.lst ds)) ∧ Q ds (fun S => S[n]? = some (some (.lst ds))) S1
  | _ => False
def rng (lo : Int) (n : Nat) : List PyData := (List.range n).map fun i => .int (lo + (i : Nat))
theorem rng_get {lo : Int} {n i : Nat} {x : PyData} (h : (rng lo n)[i]? = some x) : i < n ∧ x = .int (lo + (i : Nat)) := by
  unfold rng at h
  rw [List.getElem?_map] at h
  cases q : (List.range n)[i]? with
  | none => rw [q] at h; cases h
  | some j =>
    rw [q] at h
    cases h
    obtain ⟨h1, h2⟩ := List.getElem?_eq_some_iff.mp q
    rw [List.getElem_range] at h2
    rw [List.length_range] at h1
    exact ⟨h1, by rw [h2]⟩
theorem rng_len (lo : Int) (n : Nat) : (rng lo n).length = n := by unfold rng; rw [List.length_map, List.length_range]
def tRng1 (ta : TA3) : TI3 := fun env S Q => ta env S fun ds S1 => match ds with
  | [.p (.int n)] => (-4611686018427387904 ≤ n ∧ n ≤ 16777216) ∧ Q (rng 0 n.toNat) (fun _ => True) S1
  | _ => False
def tRng2 (ta : TA3) : TI3 := fun env S Q => ta env S fun ds S1 => match ds with
  | [.p (.int a), .p (.int b)] => (-16777216 ≤ a ∧ a ≤ 16777216 ∧ -16777216 ≤ b ∧ b ≤ 16777216 ∧ b - a ≤ 16777216) ∧ Q (rng a (b - a).toNat) (fun _ => True) S1
  | _ => False
/-- lists of pairs -/
def zip3 (xs ys : List PyData) : List PyData := (xs.zip ys).map fun p => .tuple [p.1, p.2]
def enum3 (xs : List PyData) : List PyData := xs.zipIdx.map fun p => .tuple [.int (p.2 : Nat), p.1]
section
variable {K : PySem.W.Frag} {w : W3} {H : Hp} {S : S3}
theorem itr_list {a : Addr} {ds : List PyData} (h : Dp K w.h (.ref a) (.list ds)) : ItR K w (Itl K a) ds fun _ => True := fun w' H S e r _ => by
  have h' := dp_mono e.h _ _ h
  cases h' with
  | lst hq ha =>
    have hl := DpAll.length ha
    have hq' := L2.Same.seq r.sub hq
    refine ⟨fun i hi => ⟨_, hq', by omega⟩, fun i x hx => ?_⟩
    obtain ⟨v, h1, h2⟩ := DpAll.get ha hx
    refine ⟨⟨_, v, hq', h1⟩, fun u H' y => ?_⟩
    obtain ⟨rfl, y⟩ := y
    have := (y _ hq').symm.trans h1
    cases this
    exact ⟨w', Ex3.refl _, r, h2⟩
theorem itr_tup {a : Addr} {ds : List PyData} (h : Dp K w.h (.ref a) (.tuple ds)) : ItR K w (Itt K a) ds fun _ => True := fun w' H S e r _ => by
  have h' := dp_mono e.h _ _ h
  cases h' with
  | tup hq ha =>
    have hl := DpAll.length ha
    have hq' := Same.sqT r.sub hq
    refine ⟨fun i hi => ⟨_, hq', by omega⟩, fun i x hx => ?_⟩
    obtain ⟨v, h1, h2⟩ := DpAll.get ha hx
    refine ⟨⟨_, v, hq', h1⟩, fun u H' y => ?_⟩
    obtain ⟨rfl, y⟩ := y
    have := (y _ hq').symm.trans h1
    cases this
    exact ⟨w', Ex3.refl _, r, h2⟩
theorem itr_loc {a : Addr} {n : Nat} {ds : List PyData} (ha : w.al[n]? = some a) : ItR K w (Itl K a) ds fun S => S[n]? = some (some (.lst ds)) := fun w' H S e r hs => by
  obtain ⟨_, u, hu, xs, rfl, hd, _⟩ := r.live n a _ (e.get ha) hs
  have hl := DpAll.length hd
  have hq : SqL K H a xs := .inl (.inl hu)
  refine ⟨fun i hi => ⟨_, hq, by omega⟩, fun i x hx => ?_⟩
  obtain ⟨v, h1, h2⟩ := DpAll.get hd hx
  refine ⟨⟨_, v, hq, h1⟩, fun u H' y => ?_⟩
  obtain ⟨rfl, y⟩ := y
  have := (y _ hq).symm.trans h1
  cases this
  exact ⟨w', Ex3.refl _, r, h2⟩
theorem itr_rng {lo : Int} {n : Nat} : ItR K w (Itr lo n) (rng lo n) fun _ => True := fun w' H S e r _ => by
  refine ⟨fun i hi => by rw [rng_len] at hi; exact hi, fun i x hx => ?_⟩
  obtain ⟨h1, rfl⟩ := rng_get hx
  refine ⟨h1, fun v H' y => ?_⟩
  obtain ⟨rfl, rfl⟩ := y
  exact ⟨w', Ex3.refl _, r, .int _⟩
theorem len_list {a : Addr} {ds : List PyData} (r : Rel3 K w H S) (h : Dp K w.h (.ref a) (.list ds)) : ds.length ≤ sizeLine := by
  cases h with
  | lst hq ha =>
    rw [← DpAll.length ha]
    exact r.szL hq
theorem len_tup {a : Addr} {ds : List PyData} (r : Rel3 K w H S) (h : Dp K w.h (.ref a) (.tuple ds)) : ds.length ≤ sizeLine := by
  cases h with
  | tup hq ha =>
    rw [← DpAll.length ha]
    exact r.szT hq
theorem dp_list_ref {h : Hp} {v : V} {ds : List PyData} (q : Dp K h v (.list ds)) : ∃ a xs, v = .ref a ∧ SqL K h a xs ∧ DpAll K h xs ds := by
  cases q with
  | lst hq ha => exact ⟨_, _, rfl, hq, ha⟩
theorem dp_tup_ref {h : Hp} {v : V} {ds : List PyData} (q : Dp K h v (.tuple ds)) : ∃ a xs, v = .ref a ∧ SqT K h a xs ∧ DpAll K h xs ds := by
  cases q with
  | tup hq ha => exact ⟨_, _, rfl, hq, ha⟩
end
section
variable {X : Cx} {tg l a b : Expr} {te : TE3} {ta : TA3} {p pos : Pos}
/-- a list or a tuple, walked -/
def iSeq (K : PySem.W.Frag) (tl : TE) : TI := fun σ H R => tl σ H fun x H1 => ∃ a, x = .ref a ∧ (((∃ xs, SqL K H1 a xs) ∧ R (Itl K a) H1) ∨ ((∃ xs, SqT K H1 a xs) ∧ R (Itt K a) H1))
theorem pi_seq {tl : TE} (hl : PE X l tl) : PI X tg l (iSeq X.K tl) := by
  refine ⟨fun pins s σ H R I h => ?_⟩
  refine thn (hl.run pins s σ H _ I h) fun v s1 ⟨x, H1, I1, r1, q1⟩ => ?_
  obtain ⟨a, e, q1⟩ := q1
  subst e
  cases r1
  rcases q1 with ⟨⟨xs, hq⟩, q⟩ | ⟨⟨xs, hq⟩, q⟩
  · obtain ⟨its, rv, p, hz⟩ := I1.list hq
    refine wpAny_pyIter_list p.isList ?_
    refine ⟨s1.heap.objs.size, [s1.heap.objs.size], _, _, H1, rfl, I1.kept (t' := s1.toks) fun b o e => Heap.get?_push_of_some _ e, turn_list a _, ⟨_, Heap.get?_push_size _ rfl, rfl, rfl⟩, fun b hb => ?_, q⟩
    have e : b = s1.heap.objs.size := by simpa using hb
    subst e
    exact I1.fpOk (Nat.le_refl _) (I1.hok.fresh (Nat.le_refl _))
  · obtain ⟨its, rv, p, hz⟩ := I1.tuple hq
    refine wpAny_pyIter_tuple (show s1.heap.IsTuple a its.toArray from p) ?_
    refine ⟨s1.heap.objs.size, [s1.heap.objs.size], _, _, H1, rfl, I1.kept (t' := s1.toks) fun b o e => Heap.get?_push_of_some _ e, turn_tuple a _, ⟨_, Heap.get?_push_size _ rfl, rfl, rfl⟩, fun b hb => ?_, q⟩
    have e : b = s1.heap.objs.size := by simpa using hb
    subst e
    exact I1.fpOk (Nat.le_refl _) (I1.hok.fresh (Nat.le_refl _))
theorem qi_seq (hl : QE X l te) : QI X tg l (tSeqI3 te) := (pi_seq hl).imp fun σ H R ⟨w, env, S, Q, r0, en, t, q⟩ => by
  refine ⟨w, env, S, _, r0, en, t, fun w1 v d H1 S1 e1 r1 p1 t1 => ?_⟩
  match d, p1, t1 with
  | .p (.list ds), p1, t1 =>
    obtain ⟨a, xs, rfl, hq, ha⟩ := dp_list_ref p1
    exact ⟨a, rfl, .inl ⟨⟨xs, L2.Same.seq r1.sub hq⟩, q w1 _ H1 S1 ds _ e1 r1 (itr_list p1) (len_list r1 p1) t1⟩⟩
  | .p (.tuple ds), p1, t1 =>
    obtain ⟨a, xs, rfl, hq, ha⟩ := dp_tup_ref p1
    exact ⟨a, rfl, .inr ⟨⟨xs, Same.sqT r1.sub hq⟩, q w1 _ H1 S1 ds _ e1 r1 (itr_tup p1) (len_tup r1 p1) t1⟩⟩
  | .loc n, p1, t1 =>
    obtain ⟨ds, hs, t1⟩ := t1
    obtain ⟨a, ha, rfl⟩ := p1
    obtain ⟨_, u, hu, xs, rfl, hd, hz⟩ := r1.live n a _ ha hs
    exact ⟨a, rfl, .inl ⟨⟨xs, .inl (.inl hu)⟩, q w1 _ H1 S1 ds _ e1 r1 (itr_loc ha) hz t1⟩⟩
theorem qi_range1 (hg : Gl X "range") (hm : X.mg "range" = none) (ha : QA X [a] ta) (hs : starEach [a] X.env = [(false, eval a X.env)] := by rfl) : QI X tg (.Call (.Name "range" p) [a] [] pos) (tRng1 ta) := (pi_range1 hg hm ha hs).imp fun σ H R ⟨w, env, S, Q, r0, en, t, q⟩ => by
  refine ⟨w, env, S, _, r0, en, t, fun w1 vs ds H1 S1 e1 r1 p1 t1 => ?_⟩
  match vs, ds, p1, t1 with
  | [v], [.p (.int n)], p1, t1 =>
    have := dp_int p1.1
    subst this
    have hz : sizeLine = 16777216 := sizeLine_eq
    refine ⟨n, rfl, by omega, by omega, q w1 _ H1 S1 _ _ e1 r1 itr_rng (by rw [rng_len]; omega) t1.2⟩
  | [], [.p (.int n)], p1, _ => exact p1.elim
  | _ :: _ :: _, [.p (.int n)], p1, _ => exact p1.2.elim
theorem qi_range2 (hg : Gl X "range") (hm : X.mg "range" = none) (ha : QA X [a, b] ta) (hs : starEach [a, b] X.env = [(false, eval a X.env), (false, eval b X.env)] := by rfl) (hs2 : starEach [b] X.env = [(false, eval b X.env)] := by rfl) : QI X tg (.Call (.Name "range" p) [a, b] [] pos) (tRng2 ta) := (pi_range2 hg hm ha hs hs2).imp fun σ H R ⟨w, env, S, Q, r0, en, t, q⟩ => by
  refine ⟨w, env, S, _, r0, en, t, fun w1 vs ds H1 S1 e1 r1 p1 t1 => ?_⟩
  match vs, ds, p1, t1 with
  | [v, u], [.p (.int n), .p (.int m)], p1, t1 =>
    have := dp_int p1.1
    subst this
    have := dp_int p1.2.1
    subst this
    have hz : sizeLine = 16777216 := sizeLine_eq
    refine ⟨n, m, rfl, by omega, q w1 _ H1 S1 _ _ e1 r1 itr_rng (by rw [rng_len]; omega) t1.2⟩
  | [], [.p (.int n), .p (.int m)], p1, _ => exact p1.elim
  | [_], [.p (.int n), .p (.int m)], p1, _ => exact p1.2.elim
  | _ :: _ :: _ :: _, [.p (.int n), .p (.int m)], p1, _ => exact p1.2.2.elim
end

/-! ### loops -/
def below (L : Nat) : D → Prop
  | .loc n => n < L
  | _ => True
/-- slots are forgotten, the store's last objects too -/
def Fits (env env' : E3) (L : Nat) : Prop := env'.length = env.length ∧ ∀ i d, at3 env' i = some d → at3 env i = some d ∧ below L d
def Wk (n : Nat) (I : E3 → S3 → Prop) : E3 → S3 → Prop := fun env S => I env S ∨ ∃ L env', n ≤ L ∧ Fits env env' L ∧ I env' (S.take L)
theorem wk_low {K : PySem.W.Frag} {w w' : W3} {H : Hp} {S : S3} {σ : L2.St} {env : E3} {n : Nat} {I : E3 → S3 → Prop} (hn : w.al.length ≤ n) (e : Ex3 w w') (r : Rel3 K w' H S) (en : EnvR K w' σ env) (h : Wk n I env S) :
    ∃ w2 env2 S2, Ex3 w w2 ∧ Rel3 K w2 H S2 ∧ EnvR K w2 σ env2 ∧ I env2 S2 := by
  rcases h with h | ⟨L, env', hL, hf, h⟩
  · exact ⟨w', env, S, e, r, en, h⟩
  · refine ⟨⟨w'.al.take L, w'.h, w'.pn⟩, env', _, ⟨⟨?_, e.h⟩, e.pn⟩, r.shrink L, ⟨en.1.trans hf.1.symm, fun i d hd => ?_⟩, h⟩
    · obtain ⟨t, ht⟩ := e.al
      refine ⟨t.take (L - w.al.length), ?_⟩
      show w'.al.take L = _
      rw [ht, List.take_append, List.take_of_length_le (by omega)]
    · obtain ⟨h1, h2⟩ := hf.2 i d hd
      obtain ⟨v, h3, h4⟩ := en.2 i d h1
      refine ⟨v, h3, ?_⟩
      cases d with
      | p d => exact h4
      | exc c => exact h4
      | loc m =>
        obtain ⟨a, h5, h6⟩ := h4
        exact ⟨a, by show (w'.al.take L)[m]? = _; rw [List.getElem?_take_of_lt h2]; exact h5, h6⟩
def tFor3 (ti : TI3) (T : Tg) (tb : TS3) : TS3 := fun D env S => ti env S fun xs ok S1 => ∃ I : Nat → E3 → S3 → Prop, I 0 env S1 ∧ (∀ i e s, I i e s → ok s) ∧
  (∀ i x e s, xs[i]? = some x → I i e s → match bind3 T x e with
    | some e2 => tb { D with nx := Wk S1.length (I (i + 1)), ct := Wk S1.length (I (i + 1)), bk := D.nx } e2 s
    | none => False) ∧ ∀ e s, I xs.length e s → D.nx e s
section
variable {X : Cx} {tg iter : Expr} {body : List Stmt} {ti : TI3} {T : Tg} {tb : TS3} {tc : TT3} {c : Expr} {pos : Pos}
theorem qs_for (hp : PassesOwn (model X.prog X.w) X.A X.env X.xe) (hc : X.calm = true) (hi : QI X tg iter ti) (hg : QB X tg T) (hb : QSs X body tb)
    (hs : ∀ x, foldedSetIterable iter X.env x = pure x := by intro _; rfl) : QS X (.For tg iter body [] pos) (tFor3 ti T tb) := (ps_for hp hc hi hg hb hs).imp fun D σ H ⟨w, env, S, D3, r0, en, t, q⟩ => by
  refine ⟨w, env, S, _, r0, en, t, fun w1 J H1 S1 xs ok e1 r1 hJ hz t1 => ?_⟩
  obtain ⟨I, h0, hok, hs, hd⟩ := t1
  refine ⟨fun i m σ H => i ≤ xs.length ∧ m = xs.length - i ∧ ∃ w2 e s, Ex3 w1 w2 ∧ Rel3 X.K w2 H s ∧ EnvR X.K w2 σ e ∧ I i e s, ⟨_, Nat.zero_le _, rfl, w1, env, S1, Ex3.refl _, r1, en.mono e1, h0⟩, ?_⟩
  rintro i m σ2 H2 ⟨hi, rfl, w2, e, s, e2, r2, en2, h2⟩
  obtain ⟨hstop, hgo⟩ := hJ w2 H2 s e2.toEx0 r2 (hok i e s h2)
  by_cases hlt : i < xs.length
  · obtain ⟨go, hy⟩ := hgo i xs[i] (List.getElem?_eq_getElem hlt)
    refine .inr ⟨go, fun σ' H' => ∃ w' e' s', Ex3 w1 w' ∧ Rel3 X.K w' H' s' ∧ EnvR X.K w' σ' e' ∧ I (i + 1) e' s', fun σ' H' ⟨w', e', s', a1, a2, a3, a4⟩ => ⟨xs.length - (i + 1), by omega, hlt, rfl, w', e', s', a1, a2, a3, a4⟩, fun x H' y => ?_⟩
    obtain ⟨w3, e3, r3, d3⟩ := hy x H' y
    have step := hs i xs[i] e s (List.getElem?_eq_getElem hlt) h2
    cases hbd : bind3 T xs[i] e with
    | none => rw [hbd] at step; exact step.elim
    | some env3 =>
      rw [hbd] at step
      refine bind_low r3 T.slots T xs[i] x σ2 e env3 (fun _ h => h) (en2.mono e3) d3 hbd _ fun σ3 en3 _ => ?_
      have back : EndN X.K w3 (Wk S1.length (I (i + 1))) fun σ' H' => ∃ w' e' s', Ex3 w1 w' ∧ Rel3 X.K w' H' s' ∧ EnvR X.K w' σ' e' ∧ I (i + 1) e' s' := fun w4 σ4 H4 e4 s4 x4 r4 en4 h4 => by
        obtain ⟨w5, e5, s5, a1, a2, a3, a4⟩ := wk_low (w := w1) (by rw [r1.len]; exact Nat.le_refl _) ((e2.trans e3).trans x4) r4 en4 h4
        exact ⟨w5, e5, s5, a1, a2, a3, a4⟩
      exact ⟨w3, env3, s, _, r3, en3, step, ⟨back, q.rt.mono (((e1.trans e2).trans e3)), q.nx.mono (((e1.trans e2).trans e3)), back⟩⟩
  · have e' : i = xs.length := by omega
    subst e'
    exact .inl ⟨hstop _ (Nat.le_refl _), q.nx w2 σ2 H2 e s (e1.trans e2) r2 en2 (hd e s h2)⟩
def tWhile3 (tc : TT3) (tb : TS3) : TS3 := fun D env S => ∃ I : Nat → E3 → S3 → Prop, (∃ m, I m env S) ∧ ∀ m e s, I m e s → tc e s fun b s1 =>
  if b = true then tb { D with nx := Wk S.length fun e' s' => ∃ m', m' < m ∧ I m' e' s', ct := Wk S.length fun e' s' => ∃ m', m' < m ∧ I m' e' s', bk := D.nx } e s1 else D.nx e s1
theorem qs_while (hp : PassesOwn (model X.prog X.w) X.A X.env X.xe) (hc : QT X c tc) (hb : QSs X body tb) : QS X (.While c body [] pos) (tWhile3 tc tb) := (ps_while hp hc hb).imp fun D σ H ⟨w, env, S, D3, r0, en, t, q⟩ => by
  obtain ⟨I, ⟨m0, h0⟩, ht⟩ := t
  refine ⟨fun m σ H => ∃ w2 e s, Ex3 w w2 ∧ Rel3 X.K w2 H s ∧ EnvR X.K w2 σ e ∧ I m e s, ⟨m0, w, env, S, Ex3.refl _, r0, en, h0⟩, ?_⟩
  rintro m σ2 H2 ⟨w2, e, s, e2, r2, en2, h2⟩
  refine ⟨w2, e, s, _, r2, en2, ht m e s h2, fun w3 b H3 S3 e3 r3 t3 => ?_⟩
  cases b with
  | true =>
    rw [if_pos rfl] at t3 ⊢
    refine ⟨fun σ' H' => ∃ m', m' < m ∧ ∃ w' e' s', Ex3 w w' ∧ Rel3 X.K w' H' s' ∧ EnvR X.K w' σ' e' ∧ I m' e' s', fun σ' H' h => h, ?_⟩
    have back : EndN X.K w3 (Wk S.length fun e' s' => ∃ m', m' < m ∧ I m' e' s') fun σ' H' => ∃ m', m' < m ∧ ∃ w' e' s', Ex3 w w' ∧ Rel3 X.K w' H' s' ∧ EnvR X.K w' σ' e' ∧ I m' e' s' := fun w4 σ4 H4 e4 s4 x4 r4 en4 h4 => by
      obtain ⟨w5, e5, s5, a1, a2, a3, m', hm, a4⟩ := wk_low (w := w) (by rw [r0.len]; exact Nat.le_refl _) ((e2.trans e3).trans x4) r4 en4 h4
      exact ⟨m', hm, w5, e5, s5, a1, a2, a3, a4⟩
    exact ⟨w3, e, S3, _, r3, en2.mono e3, t3, ⟨back, q.rt.mono (e2.trans e3), q.nx.mono (e2.trans e3), back⟩⟩
  | false =>
    rw [if_neg Bool.false_ne_true] at t3 ⊢
    exact q.nx w3 σ2 H3 e S3 (e2.trans e3) r3 (en2.mono e3) t3
end

/-! ### comprehensions -/
def wipe3 (env : E3) : List Nat → E3
  | [] => env
  | v :: vs => clr (wipe3 env vs) v
where clr : E3 → Nat → E3
  | [], _ => []
  | _ :: r, 0 => none :: r
  | x :: r, n + 1 => x :: clr r n
theorem clr_length : ∀ (env : E3) (i : Nat), (wipe3.clr env i).length = env.length
  | [], _ => rfl
  | _ :: _, 0 => rfl
  | _ :: r, n + 1 => congrArg (· + 1) (clr_length r n)
theorem clr_at : ∀ (env : E3) (i j : Nat) (d : D), at3 (wipe3.clr env i) j = some d → at3 env j = some d ∧ j ≠ i
  | [], i, j, d, h => by simp [wipe3.clr, at3] at h
  | x :: r, 0, 0, d, h => by simp [wipe3.clr, at3] at h
  | x :: r, 0, j + 1, d, h => ⟨h, by simp⟩
  | x :: r, i + 1, 0, d, h => ⟨h, by simp⟩
  | x :: r, i + 1, j + 1, d, h => by
    obtain ⟨h1, h2⟩ := clr_at r i j d h
    exact ⟨h1, by omega⟩
theorem wipe3_length (env : E3) : ∀ vs, (wipe3 env vs).length = env.length
  | [] => rfl
  | v :: vs => by unfold wipe3; rw [clr_length, wipe3_length env vs]
theorem wipe3_at (env : E3) : ∀ (vs : List Nat) (j : Nat) (d : D), at3 (wipe3 env vs) j = some d → at3 env j = some d ∧ j ∉ vs
  | [], j, d, h => ⟨h, by simp⟩
  | v :: vs, j, d, h => by
    unfold wipe3 at h
    obtain ⟨h1, h2⟩ := clr_at _ _ _ _ h
    obtain ⟨h3, h4⟩ := wipe3_at env vs j d h1
    exact ⟨h3, by simp only [List.mem_cons, not_or]; exact ⟨h2, h4⟩⟩
theorem EnvR.wipe {K : PySem.W.Frag} {w : W3} {σ : L2.St} {env : E3} (h : EnvR K w σ env) (vs : List Nat) : EnvR K w (wipe σ vs) (wipe3 env vs) := by
  refine ⟨by rw [wipe_length, wipe3_length]; exact h.1, fun i d q => ?_⟩
  obtain ⟨h1, h2⟩ := wipe3_at env vs i d q
  obtain ⟨v, h3, h4⟩ := h.2 i d h1
  refine ⟨v, ?_, h4⟩
  rw [wipe_out h2]
  exact h3
def tLc3 (ti : TI3) (T : Tg) (tt : TT3) (te : TE3) (vs : List Nat) : TN3 := fun env S Q => ti env S fun xs ok S1 => ∃ I : Nat → List PyData → S3 → Prop, I 0 [] S1 ∧ (∀ i acc s, I i acc s → ok s) ∧
  (∀ i x acc s, xs[i]? = some x → I i acc s → match bind3 T x (wipe3 env vs) with
    | some e2 => tt e2 s fun b s1 => if b = true then te e2 s1 fun y s2 => match y with
        | .p d => I (i + 1) (acc ++ [d]) s2
        | _ => False
      else I (i + 1) acc s1
    | none => False) ∧ ∀ acc s, I xs.length acc s → Q acc s
def tYes3 : TT3 := fun _ S Q => Q true S
theorem lc_low {K : PySem.W.Frag} {ti : TI3} {T : Tg} {tt : TT3} {te : TE3} {vs : List Nat} {σ : L2.St} {H : Hp} {R : VK} (hv : ∀ i ∈ T.slots, i ∈ vs) (h : lowN K (tLc3 ti T tt te vs) σ H R) : tLc (lowI K ti) (g2 K T) (lowT K tt) (low K te) vs σ H R := by
  obtain ⟨w, env, S, Q, r0, en, t, q⟩ := h
  refine ⟨w, env, S, _, r0, en, t, fun w1 J H1 S1 xs ok e1 r1 hJ hz t1 => fun D hD => ?_⟩
  obtain ⟨I, h0, hok, hs, hd⟩ := t1
  refine ⟨fun i m H => i ≤ xs.length ∧ m = xs.length - i ∧ ∃ al h s acc ys, Ex0 w1 ⟨al, h, (D, .lst ys) :: w1.pn⟩ ∧ Rel3 K ⟨al, h, (D, .lst ys) :: w1.pn⟩ H s ∧ DpAll K h ys acc ∧ acc.length ≤ i ∧ I i acc s,
    ⟨_, Nat.zero_le _, rfl, w1.al, w1.h, S1, [], [], ⟨⟨[], by simp⟩, Same.refl _⟩, r1.pinNew hD, .nil, Nat.le_refl _, h0⟩, ?_⟩
  rintro i m H2 ⟨hi, rfl, al, h, s, acc, ys, e2, r2, da, hacc, h2⟩
  obtain ⟨hstop, hgo⟩ := hJ _ H2 s e2 r2 (hok i acc s h2)
  by_cases hlt : i < xs.length
  · obtain ⟨go, hy⟩ := hgo i xs[i] (List.getElem?_eq_getElem hlt)
    refine .inr ⟨go, fun H' => ∃ al h s acc ys, Ex0 w1 ⟨al, h, (D, .lst ys) :: w1.pn⟩ ∧ Rel3 K ⟨al, h, (D, .lst ys) :: w1.pn⟩ H' s ∧ DpAll K h ys acc ∧ acc.length ≤ i + 1 ∧ I (i + 1) acc s,
      fun H' ⟨al, h, s, acc, ys, a1, a2, a3, a4, a5⟩ => ⟨xs.length - (i + 1), by omega, hlt, rfl, al, h, s, acc, ys, a1, a2, a3, a4, a5⟩, fun x H' y => ?_⟩
    obtain ⟨w3, e3, r3, d3⟩ := hy x H' y
    have step := hs i xs[i] acc s (List.getElem?_eq_getElem hlt) h2
    cases hbd : bind3 T xs[i] (wipe3 env vs) with
    | none => rw [hbd] at step; exact step.elim
    | some env3 =>
      rw [hbd] at step
      have en3 : EnvR K w3 (wipe σ vs) (wipe3 env vs) := (((en.mono e1).mono0 e2).mono e3).wipe vs
      refine bind_low r3 vs T xs[i] x _ _ env3 hv en3 d3 hbd _ fun σ3 en4 hw => ⟨?_, ?_⟩
      · have ww : ∀ vs' : List Nat, (∀ i ∈ vs', i ∈ vs) → wipe (wipe σ vs) vs' = wipe σ vs := by
          intro vs'
          induction vs' with
          | nil => intro _; rfl
          | cons v vs' ih =>
            intro hsub
            show (wipe (wipe σ vs) vs').set v none = wipe σ vs
            rw [ih fun i hi => hsub i (List.mem_cons_of_mem _ hi)]
            have : ∀ (vs : List Nat), v ∈ vs → (wipe σ vs).set v none = wipe σ vs := by
              intro vs
              induction vs with
              | nil => intro h; cases h
              | cons u vs ih =>
                intro hm
                show ((wipe σ vs).set u none).set v none = (wipe σ vs).set u none
                by_cases e : v = u
                · subst e
                  rw [List.set_set]
                · have hm' : v ∈ vs := (List.mem_cons.mp hm).resolve_left e
                  rw [List.set_comm _ _ (Ne.symm e), ih hm']
            exact this vs (hsub v List.mem_cons_self)
        exact hw.trans (ww vs fun _ h => h)
      · refine ⟨w3, env3, s, _, r3, en4, step, fun w4 b H4 s4 e4 r4 t4 => ?_⟩
        obtain ⟨al4, h4, pn4⟩ := w4
        have hpn : pn4 = (D, .lst ys) :: w1.pn := by
          have a := e4.pn
          have b := e3.pn
          exact a.trans b
        subst hpn
        have e24 : Ex0 w1 ⟨al4, h4, (D, .lst ys) :: w1.pn⟩ := (e2.trans e3.toEx0).trans e4.toEx0
        cases b with
        | false =>
          rw [if_neg Bool.false_ne_true] at t4 ⊢
          exact ⟨al4, h4, s4, acc, ys, e24, r4, dpAll_mono (e3.h.trans e4.h) acc ys da, by omega, t4⟩
        | true =>
          rw [if_pos rfl] at t4 ⊢
          refine ⟨_, env3, s4, _, r4, en4.mono e4, t4, fun w5 v d H5 s5 e5 r5 p5 t5 => ?_⟩
          obtain ⟨al5, h5, pn5⟩ := w5
          have hpn : pn5 = (D, .lst ys) :: w1.pn := e5.pn
          subst hpn
          cases d with
          | loc n | exc n => exact t5.elim
          | p d =>
            have hl := DpAll.length da
            refine ⟨ys, (r5.pin D _ List.mem_cons_self).1, by omega, al5, h5, s5, acc ++ [d], ys ++ [v], ?_, r5.repin, ?_, ?_, t5⟩
            · exact ⟨(e24.trans e5.toEx0).al, (e24.trans e5.toEx0).h⟩
            · exact DpAll.append (dpAll_mono ((e3.h.trans e4.h).trans e5.h) acc ys da) (.cons p5 .nil)
            · rw [List.length_append, List.length_singleton]
              omega
  · have e' : i = xs.length := by omega
    subst e'
    obtain ⟨r3, hdn, hup⟩ := r2.unpin
    refine .inl ⟨hstop _ (Nat.le_refl _), ?_⟩
    rw [← hup]
    refine q ⟨al, h, w1.pn⟩ D ys acc _ s (e1.trans ⟨⟨e2.al, e2.h⟩, rfl⟩) r3 hdn da ?_ (hd acc s h2)
    omega
section
variable {X : Cx} {elt tg iter : Expr} {ifs : List Expr} {scope : Scope} {own : List (Str × Nat)} {pos : Pos} {ti : TI3} {T : Tg} {tt : TT3} {te : TE3}
abbrev QTs (X : Cx) (ifs : List Expr) (t : TT3) : Prop := PTs X ifs (lowT X.K t)
theorem qts_nil : QTs X [] tYes3 := ⟨fun pins s σ H Q I ⟨w, env, S, Q3, r0, en, t, q⟩ => pts_nil.run pins s σ H Q I (q w true H S (Ex3.refl w) r0 t)⟩
theorem qts_one {c : Expr} {t : TT3} (h : QT X c t) : QTs X [c] t := pts_one h
theorem qn_lc (hc : X.calm = true) (hN : X.N.Nodup) (hi : QI X tg iter ti) (ok : BlkOk X.N X.env.scope scope own)
    (hg : ∀ (s : Shared) (H : Hp) (C : Addr) (cl : List (Str × Addr)) (fp : List Addr), QB (X.blk s H scope (compEnvC scope cl C X.env) fp) tg T) (ht : ∀ (s : Shared) (H : Hp) (C : Addr) (cl : List (Str × Addr)) (fp : List Addr), QTs (X.blk s H scope (compEnvC scope cl C X.env) fp) ifs tt)
    (he : ∀ (s : Shared) (H : Hp) (C : Addr) (cl : List (Str × Addr)) (fp : List Addr), QE (X.blk s H scope (compEnvC scope cl C X.env) fp) elt te) (hv : ∀ i ∈ T.slots, i ∈ own.map (·.2) := by decide) (hs : ∀ x, foldedSetIterable iter X.env x = pure x := by intro _; rfl) :
    QN X (.ListComp elt [⟨tg, iter, ifs, 0⟩] scope pos) (tLc3 ti T tt te (own.map (·.2))) := (pe_lc hc hN hi ok hg ht he hs).imp fun σ H R h => lc_low hv h
/-- name = [..], the name a local -/
theorem qs_setLcP {i : Nat} {y : Str} {py spos : Pos} (hc : X.calm = true) (hN : X.N.Nodup) (hy : X.N[i]? = some y) (hyl : X.env.scope.names.lookup y = some .local)
    (hsw : swapsWith (.ListComp elt [⟨tg, iter, ifs, 0⟩] scope pos) (some (.Name y py)) spos.line X.env = pure true) (hi : QI X tg iter ti) (ok : BlkOk X.N X.env.scope scope own)
    (hg : ∀ (s : Shared) (H : Hp) (C : Addr) (cl : List (Str × Addr)) (fp : List Addr), QB (X.blk s H scope (compEnvC scope cl C X.env) fp) tg T) (ht : ∀ (s : Shared) (H : Hp) (C : Addr) (cl : List (Str × Addr)) (fp : List Addr), QTs (X.blk s H scope (compEnvC scope cl C X.env) fp) ifs tt)
    (he : ∀ (s : Shared) (H : Hp) (C : Addr) (cl : List (Str × Addr)) (fp : List Addr), QE (X.blk s H scope (compEnvC scope cl C X.env) fp) elt te) (hv : ∀ i ∈ T.slots, i ∈ own.map (·.2) := by decide) (hs : ∀ x, foldedSetIterable iter X.env x = pure x := by intro _; rfl) :
    QS X (.Assign [.Name y py] (.ListComp elt [⟨tg, iter, ifs, 0⟩] scope pos) spos) (tSet3 i (tPure (tLc3 ti T tt te (own.map (·.2))))) := (ps_setLc hc hN hy hyl hsw hi ok hg ht he hs).imp fun D σ H ⟨w, env, S, D3, r0, en, t, q⟩ => by
  refine lc_low (R := fun x H1 => gName i x σ H1 D.nx) hv ⟨w, env, S, _, r0, en, t, fun w1 p xs ds H1 S1 e1 r1 hn ha hz t1 => ?_⟩
  have hl := DpAll.length ha
  obtain ⟨r2, e2⟩ := r1.frz (u := .lst xs) hn (by show xs.length ≤ _; rw [hl]; exact hz)
  exact q.nx _ _ _ _ S1 (e1.trans e2) r2 (((en.mono e1).mono e2).set (d := .p (.list ds)) i (Dp.lst (.inl (.inl upd_same)) (dpAll_mono e2.h ds xs ha))) t1
theorem qs_setLcO {i : Nat} {y : Str} {py spos : Pos} (hc : X.calm = true) (hN : X.N.Nodup) (hy : X.N[i]? = some y) (hyl : X.env.scope.names.lookup y = some .local)
    (hsw : swapsWith (.ListComp elt [⟨tg, iter, ifs, 0⟩] scope pos) (some (.Name y py)) spos.line X.env = pure true) (hi : QI X tg iter ti) (ok : BlkOk X.N X.env.scope scope own)
    (hg : ∀ (s : Shared) (H : Hp) (C : Addr) (cl : List (Str × Addr)) (fp : List Addr), QB (X.blk s H scope (compEnvC scope cl C X.env) fp) tg T) (ht : ∀ (s : Shared) (H : Hp) (C : Addr) (cl : List (Str × Addr)) (fp : List Addr), QTs (X.blk s H scope (compEnvC scope cl C X.env) fp) ifs tt)
    (he : ∀ (s : Shared) (H : Hp) (C : Addr) (cl : List (Str × Addr)) (fp : List Addr), QE (X.blk s H scope (compEnvC scope cl C X.env) fp) elt te) (hv : ∀ i ∈ T.slots, i ∈ own.map (·.2) := by decide) (hs : ∀ x, foldedSetIterable iter X.env x = pure x := by intro _; rfl) :
    QS X (.Assign [.Name y py] (.ListComp elt [⟨tg, iter, ifs, 0⟩] scope pos) spos) (tSet3 i (tOwn (tLc3 ti T tt te (own.map (·.2))))) := (ps_setLc hc hN hy hyl hsw hi ok hg ht he hs).imp fun D σ H ⟨w, env, S, D3, r0, en, t, q⟩ => by
  refine lc_low (R := fun x H1 => gName i x σ H1 D.nx) hv ⟨w, env, S, _, r0, en, t, fun w1 p xs ds H1 S1 e1 r1 hn ha hz t1 => ?_⟩
  obtain ⟨r2, e2⟩ := r1.push (u := .lst xs) (o := .lst ds) hn ⟨xs, rfl, ha, hz⟩
  refine q.nx _ _ _ _ _ (e1.trans e2) r2 (((en.mono e1).mono e2).set (d := .loc S1.length) i ⟨p, ?_, rfl⟩) t1
  show (w1.al ++ [p])[S1.length]? = some p
  rw [← r1.len, List.getElem?_append_right (Nat.le_refl _)]
  simp
end
end L3

namespace L3
open PySem PySem.Spec PyProof.Rows L2
/-! ### defs -/
abbrev Sp3 := List D → S3 → K3 → Prop
/-- a def that keeps a promise over trees -/
structure Ok3 (P : Program) (w : World) (K : PySem.W.Frag) (mg : Str → Option Value) (base : Heap) (k : Nat) (x : Str) (sp : Sp3) : Prop where
  ex : ∃ f fd ps, mg x = some (.ref f) ∧ PySem.W.keepIn K (.ref f) = true ∧ Binds K fd ps [] ∧ FnOk P w K mg base CX0 k f fd ps (fun vs H Q _ => lowC K sp vs H Q)
section
variable {X : Cx} {e : Expr} {es : List Expr} {tr : TA3} {p pos : Pos} {x : Str} {k : Nat} {sp : Sp3}
theorem qe_call (F : Ok3 X.prog X.w X.K X.mg X.base k x sp) (hr : Room k X.A) (hg : Gl X x) (ha : QA X (e :: es) tr) (hdb : (x == ("__debug__" : Str)) = false := by decide) (he : starEach (e :: es) X.env = (false, eval e X.env) :: starEach es X.env := by rfl) (hpl : (backTo pos (starEach es X.env)).any (·.1) = false := by rfl) :
    QE X (.Call (.Name x p) (e :: es) [] pos) (tCB3 sp tr) := by
  obtain ⟨f, fd, ps, hm, kp, b, ok⟩ := F.ex
  refine (pe_call ok hr hg hm kp b .nil pass0 ha hdb he hpl).imp fun σ H R h => ?_
  show lowA X.K tr σ H fun vs H1 => lowC X.K sp (vs ++ []) H1 R
  have := lowCB h
  obtain ⟨w, env, S, Q, r0, en, t, q⟩ := this
  refine ⟨w, env, S, Q, r0, en, t, fun w1 vs ds H1 S1 e1 r1 p1 t1 => ?_⟩
  show lowC X.K sp (vs ++ []) H1 R
  rw [List.append_nil]
  exact q w1 vs ds H1 S1 e1 r1 p1 t1
end
/-- a def's answer: the store's last objects (those made within) are forgotten, but for what is handed back -/
def Fin3 (S : S3) (Q : K3) : K3 := fun d S' => ∃ L, S.length ≤ L ∧ below L d ∧ Q d (S'.take L)
theorem fin_p {S : S3} {Q : K3} {d : PyData} (h : Q (.p d) S) : Fin3 S Q (.p d) S := ⟨S.length, Nat.le_refl _, trivial, by rw [List.take_length]; exact h⟩
theorem fin_app {S T : S3} {Q : K3} {d : PyData} (h : Q (.p d) S) : Fin3 S Q (.p d) (S ++ T) := ⟨S.length, Nat.le_refl _, trivial, by rw [List.take_left]; exact h⟩
theorem fin_of {S S' : S3} {Q : K3} {d : PyData} (e : S'.take S.length = S) (h : Q (.p d) S) : Fin3 S Q (.p d) S' := ⟨S.length, Nat.le_refl _, trivial, by rw [e]; exact h⟩
theorem fin_all {S S' : S3} {Q : K3} {d : D} (hl : S.length ≤ S'.length) (hb : below S'.length d) (h : Q d S') : Fin3 S Q d S' := ⟨S'.length, hl, hb, by rw [List.take_length]; exact h⟩
theorem fin_new {S : S3} {o : Option O3} {Q : K3} (h : Q (.loc S.length) (S ++ [o])) : Fin3 S Q (.loc S.length) (S ++ [o]) := fin_all (by simp) (by show _ < _; simp) h
def env0 (n : Nat) (ds : List D) : E3 := ds.map some ++ List.replicate (n - ds.length) none
theorem at3_app : ∀ (ds : List D) (r : E3) (i : Nat), at3 (ds.map some ++ r) i = if i < ds.length then ds[i]? else at3 r (i - ds.length)
  | [], r, i => by simp [at3]
  | d :: ds, r, 0 => by simp [at3]
  | d :: ds, r, i + 1 => by
    show at3 (ds.map some ++ r) i = _
    rw [at3_app ds r i]
    simp
theorem at3_none : ∀ (n i : Nat), at3 (List.replicate n none) i = none
  | 0, _ => rfl
  | n + 1, 0 => rfl
  | n + 1, i + 1 => at3_none n i
theorem repDs_get {K : PySem.W.Frag} {w : W3} : ∀ {vs : List V} {ds : List D} {i : Nat} {d : D}, RepDs K w vs ds → ds[i]? = some d → ∃ v, vs[i]? = some v ∧ RepD K w v d
  | v :: vs, d :: ds, 0, e, h, q => by simp at q; subst q; exact ⟨v, rfl, h.1⟩
  | v :: vs, d :: ds, i + 1, e, h, q => by
    obtain ⟨u, h1, h2⟩ := repDs_get (i := i) h.2 (by simpa using q)
    exact ⟨u, by simpa using h1, h2⟩
  | [], [], i, e, h, q => by simp at q
  | [], _ :: _, _, _, h, _ => h.elim
  | _ :: _, [], _, _, h, _ => h.elim
theorem env_start {K : PySem.W.Frag} {w : W3} {vs : List V} {ds : List D} {N : List Str} (h : RepDs K w vs ds) : EnvR K w (L2.start N vs) (env0 N.length ds) := by
  have hl := RepDs.length h
  unfold L2.start env0
  refine ⟨by simp [hl], fun i d q => ?_⟩
  rw [at3_app] at q
  by_cases hi : i < ds.length
  · rw [if_pos hi] at q
    obtain ⟨v, h1, h2⟩ := repDs_get h q
    refine ⟨v, ?_, h2⟩
    rw [List.getElem?_append_left (by simp; omega), List.getElem?_map, h1]
    rfl
  · rw [if_neg hi, at3_none] at q
    cases q
section
variable {P : Program} {w : World} {K : PySem.W.Frag} {mg : Str → Option Value} {base : Heap}
/-- THE RULE for a def -/
theorem Ok3.fnOk {x : Str} {st : Stmt} {f : Addr} {fd : FuncData} {N ps : List Str} {k : Nat} {sp : Sp3} {t3 : TS3} (F : Fun K x x st f fd) (b : Binds K fd ps []) (sc : FnScope N ps (defScope st))
    (hlen : ∀ ds S Q, sp ds S Q → ds.length = ps.length)
    (body : ∀ (cdv : Value) (A : Around) (outer : List Env) (s : Shared) (H : Hp) (E : XK), Room k (A.deeper (envOfC x (defScope st) s.heap.objs.size f cdv)) → QSs (cxOf CX0 P w K mg base N x (defScope st) f cdv A outer s H E).nox (defBody st) t3)
    (read : ∀ ds S Q, sp ds S Q → t3 { nx := fun _ S' => Fin3 S Q (.p .none) S', rt := Fin3 S Q } (env0 N.length ds) S) : FnOk P w K mg base CX0 (k + 1) f fd ps (fun vs H Q _ => lowC K sp vs H Q) := by
  refine F.ok sc (fun vs H Q E h => ?_) (fun cdv A outer s H vs Q E hr h => ?_)
  · obtain ⟨w3, S, ds, Q3, r, rd, hs, q⟩ := h
    rw [RepDs.length rd]
    exact hlen ds S Q3 hs
  · obtain ⟨w3, S, ds, Q3, r, rd, hs, q⟩ := h
    refine ⟨_, body cdv A outer s H E hr, ?_⟩
    have fin : ∀ (w4 : W3) (v : V) (d : D) (H' : Hp) (S' : S3), Ex3 w3 w4 → Rel3 K w4 H' S' → RepD K w4 v d → Fin3 S Q3 d S' → Q v H' := fun w4 v d H' S' e4 r4 p4 ⟨L, hL, hb, h4⟩ => by
      refine q ⟨w4.al.take L, w4.h, w4.pn⟩ v d H' (S'.take L) ⟨⟨?_, e4.h⟩, e4.pn⟩ (r4.shrink L) ?_ h4
      · obtain ⟨t, ht⟩ := e4.al
        refine ⟨t.take (L - w3.al.length), ?_⟩
        show w4.al.take L = _
        rw [ht, List.take_append, List.take_of_length_le (by rw [r.len]; exact hL)]
      · cases d with
        | p d => exact p4
        | exc c => exact p4
        | loc m =>
          obtain ⟨a, h5, h6⟩ := p4
          exact ⟨a, by show (w4.al.take L)[m]? = _; rw [List.getElem?_take_of_lt hb]; exact h5, h6⟩
    exact ⟨w3, _, S, _, r, env_start rd, read ds S Q3 hs, ⟨fun w4 σ' H' env' S' e4 r4 _ h4 => fin w4 .non (.p .none) H' S' e4 r4 rep_non h4, fun w4 v d H' S' e4 r4 p4 h4 => fin w4 v d H' S' e4 r4 p4 h4,
      fun _ _ _ _ _ _ _ _ h => h.elim, fun _ _ _ _ _ _ _ _ h => h.elim⟩⟩
theorem Ok3.mk' {x : Str} {st : Stmt} {f : Addr} {fd : FuncData} {N ps : List Str} {k : Nat} {sp : Sp3} {t3 : TS3} (F : Fun K x x st f fd) (hm : mg x = some (.ref f)) (b : Binds K fd ps []) (sc : FnScope N ps (defScope st))
    (hlen : ∀ ds S Q, sp ds S Q → ds.length = ps.length)
    (body : ∀ (cdv : Value) (A : Around) (outer : List Env) (s : Shared) (H : Hp) (E : XK), Room k (A.deeper (envOfC x (defScope st) s.heap.objs.size f cdv)) → QSs (cxOf CX0 P w K mg base N x (defScope st) f cdv A outer s H E).nox (defBody st) t3)
    (read : ∀ ds S Q, sp ds S Q → t3 { nx := fun _ S' => Fin3 S Q (.p .none) S', rt := Fin3 S Q } (env0 N.length ds) S) : Ok3 P w K mg base (k + 1) x sp :=
  ⟨f, fd, ps, hm, F.kp, b, Ok3.fnOk F b sc hlen body read⟩
end

/-! ### operators -/
theorem opq {X : Cx} {f : Value → Value → Sem Value} {r2 : R2} {r : R3} (h : OpR X f r2) (i : ∀ w S d e (x y : V) (H : Hp) (Q : K3) (R : VK), Rel3 X.K w H S → RepD X.K w x d → RepD X.K w y e → r d e S Q → EndE X.K w Q R → r2 x y H R) : OQ X f r :=
  OpR.imp h fun x y H R ⟨w, S, d, e, Q, r0, p1, p2, t, q⟩ => i w S d e x y H Q R r0 p1 p2 t q
theorem callq {X : Cx} {f : Value} {r2 : List V → Hp → VK → Prop} {r : C3} (h : CallR X f r2) (i : ∀ w S ds (xs : List V) (H : Hp) (Q : K3) (R : VK), Rel3 X.K w H S → RepDs X.K w xs ds → r ds S Q → EndE X.K w Q R → r2 xs H R) : CQ X f r :=
  CallR.imp h fun xs H R ⟨w, S, ds, Q, r0, p1, t, q⟩ => i w S ds xs H Q R r0 p1 t q
section
variable {X : Cx} {K : PySem.W.Frag} {w : W3} {H : Hp} {S : S3} {Q : K3} {R : VK}
theorem EndE.int (q : EndE K w Q R) (r : Rel3 K w H S) {i : Int} (h : Q (.p (.int i)) S) : R (.int i) H := q w _ _ H S (Ex3.refl w) r rep_int h
theorem EndE.bl (q : EndE K w Q R) (r : Rel3 K w H S) {i : Bool} (h : Q (.p (.bool i)) S) : R (.bl i) H := q w _ _ H S (Ex3.refl w) r rep_bl h
theorem EndE.str (q : EndE K w Q R) (r : Rel3 K w H S) {i : Str} (h : Q (.p (.str i)) S) : R (.str i) H := q w _ _ H S (Ex3.refl w) r rep_str h
theorem EndE.old (q : EndE K w Q R) (r : Rel3 K w H S) {v : V} {d : D} (hd : RepD K w v d) (h : Q d S) : R v H := q w _ _ H S (Ex3.refl w) r hd h
theorem EndE.tup (q : EndE K w Q R) (r : Rel3 K w H S) {vs : List V} {ds : List PyData} (ha : DpAll K w.h vs ds) (hz : ds.length ≤ sizeLine) (h : Q (.p (.tuple ds)) S) : ∀ p, H p = none → R (.ref p) (upd H p (.tup vs)) := fun p hn => by
  obtain ⟨r2, e2⟩ := r.frz (u := .tup vs) hn (by show vs.length ≤ _; rw [DpAll.length ha]; exact hz)
  exact q _ (.ref p) (.p (.tuple ds)) _ S e2 r2 (Dp.tup (.inl (.inl upd_same)) (dpAll_mono e2.h ds vs ha)) h
theorem EndE.lst (q : EndE K w Q R) (r : Rel3 K w H S) {vs : List V} {ds : List PyData} (ha : DpAll K w.h vs ds) (hz : ds.length ≤ sizeLine) (h : Q (.p (.list ds)) S) : ∀ p, H p = none → R (.ref p) (upd H p (.lst vs)) := fun p hn => by
  obtain ⟨r2, e2⟩ := r.frz (u := .lst vs) hn (by show vs.length ≤ _; rw [DpAll.length ha]; exact hz)
  exact q _ (.ref p) (.p (.list ds)) _ S e2 r2 (Dp.lst (.inl (.inl upd_same)) (dpAll_mono e2.h ds vs ha)) h
end
/-- ints in, an int out -/
def rInt (C : Int → Int → Prop) (g : Int → Int → PyData) : R3 := fun x y S Q => match x, y with
  | .p (.int i), .p (.int j) => C i j ∧ Q (.p (g i j)) S
  | _, _ => False
def rInt0 (g : Int → Int → PyData) : R3 := fun x y S Q => match x, y with
  | .p (.int i), .p (.int j) => Q (.p (g i j)) S
  | _, _ => False
theorem rint_inv {C : Int → Int → Prop} {g : Int → Int → PyData} {x y : D} {S : S3} {Q : K3} (h : rInt C g x y S Q) : ∃ i j, x = .p (.int i) ∧ y = .p (.int j) ∧ C i j ∧ Q (.p (g i j)) S := by
  unfold rInt at h
  split at h
  · exact ⟨_, _, rfl, rfl, h⟩
  · exact h.elim
theorem rint0_inv {g : Int → Int → PyData} {x y : D} {S : S3} {Q : K3} (h : rInt0 g x y S Q) : ∃ i j, x = .p (.int i) ∧ y = .p (.int j) ∧ Q (.p (g i j)) S := by
  unfold rInt0 at h
  split at h
  · exact ⟨_, _, rfl, rfl, h⟩
  · exact h.elim
section
variable {X : Cx}
theorem oq_int {f : Value → Value → Sem Value} {C : Int → Int → Prop} {g : Int → Int → Int} (h : OpR X f (rI C fun i j => .int (g i j))) : OQ X f (rInt C fun i j => .int (g i j)) := opq h fun w S d e x y H Q R r0 p1 p2 t q => by
  obtain ⟨i, j, rfl, rfl, hc, t⟩ := rint_inv t
  exact ⟨i, j, dp_int p1, dp_int p2, hc, q.int r0 t⟩
theorem oq_int0 {f : Value → Value → Sem Value} {g : Int → Int → Int} (h : OpR X f (rI0 fun i j => .int (g i j))) : OQ X f (rInt0 fun i j => .int (g i j)) := opq h fun w S d e x y H Q R r0 p1 p2 t q => by
  obtain ⟨i, j, rfl, rfl, t⟩ := rint0_inv t
  exact ⟨i, j, dp_int p1, dp_int p2, q.int r0 t⟩
theorem oq_bool0 {f : Value → Value → Sem Value} {g : Int → Int → Bool} (h : OpR X f (rI0 fun i j => .bl (g i j))) : OQ X f (rInt0 fun i j => .bool (g i j)) := opq h fun w S d e x y H Q R r0 p1 p2 t q => by
  obtain ⟨i, j, rfl, rfl, t⟩ := rint0_inv t
  exact ⟨i, j, dp_int p1, dp_int p2, q.bl r0 t⟩
/-! #### sums -/
theorem op_catL : OpR X (binaryOp .Add) (fun x y H Q => ∃ a b xs ys, x = .ref a ∧ y = .ref b ∧ SqL X.K H a xs ∧ SqL X.K H b ys ∧ xs.length + ys.length ≤ sizeLine ∧ ∀ p, H p = none → Q (.ref p) (upd H p (.lst (xs ++ ys)))) := by
  intro pins s σ H x y v u Q I rx ry h
  obtain ⟨l, b, xs, zs, rfl, rfl, hH, hB, hz, q⟩ := h
  cases rx
  cases ry
  obtain ⟨its, r, p1, z1⟩ := I.list hH
  obtain ⟨its2, r2, p2, z2⟩ := I.list hB
  have hl := r.length
  have hl2 := r2.length
  obtain ⟨⟨cls, dd, data, sl⟩, ho, hc, n, hd⟩ := id p1.isList
  obtain ⟨⟨cls2, dd2, data2, sl2⟩, ho2, hc2, n2, hd2⟩ := id p2.isList
  simp only at hc hd hc2 hd2
  subst hc hd hc2 hd2
  refine PySem.concat_meets ⟨_, ho, rfl⟩ ⟨_, ho2, rfl⟩ noFill_list_add seq_list_add PySem.F.slot_list_add PySem.F.entry_list_add (PySem.F.args_list_add_2 _ _) (list_addW l b its.toArray its2.toArray n n2 dd dd2 sl sl2 (by simp; omega)) ⟨ho, ho2, ?_⟩
  have ea : its.toArray ++ its2.toArray = (its ++ its2).toArray := by simp
  rw [ea]
  have hn : H s.heap.objs.size = none := I.hok.fresh (Nat.le_refl _)
  exact ⟨.ref s.heap.objs.size, _, I.laid (t' := s.toks) (o := .lst (xs ++ zs)) (fun b ob q => Heap.get?_push_of_some _ q) (Nat.le_refl _) ⟨by rw [List.length_append]; exact hz, _, _, r.append r2, Heap.get?_push_size _ rfl⟩, rfl, q _ hn⟩
end
/-- the items of a list: as it stands for ever, or of the store -/
def lst3 (S : S3) : D → Option (List PyData)
  | .p (.list ds) => some ds
  | .loc n => match S[n]? with
    | some (some (.lst ds)) => some ds
    | _ => none
  | _ => none
theorem lst3_low {K : PySem.W.Frag} {w : W3} {H : Hp} {S : S3} {v : V} {d : D} {ds : List PyData} (r : Rel3 K w H S) (p : RepD K w v d) (h : lst3 S d = some ds) : ∃ a xs, v = .ref a ∧ SqL K H a xs ∧ DpAll K w.h xs ds ∧ ds.length ≤ sizeLine := by
  unfold lst3 at h
  split at h
  · cases h
    obtain ⟨a, xs, rfl, hq, ha⟩ := dp_list_ref p
    exact ⟨a, xs, rfl, L2.Same.seq r.sub hq, ha, len_list r p⟩
  · rename_i n
    split at h
    · rename_i es hs
      cases h
      obtain ⟨a, ha, rfl⟩ := p
      obtain ⟨_, u, hu, xs, rfl, hd, hz⟩ := r.live n a _ ha hs
      exact ⟨a, xs, rfl, .inl (.inl hu), hd, hz⟩
    · cases h
  · cases h
/-- the items of a list or a tuple -/
def seq3 (S : S3) : D → Option (List PyData)
  | .p (.tuple ds) => some ds
  | d => lst3 S d
theorem seq3_low {K : PySem.W.Frag} {w : W3} {H : Hp} {S : S3} {v : V} {d : D} {ds : List PyData} (r : Rel3 K w H S) (p : RepD K w v d) (h : seq3 S d = some ds) : ∃ a xs, v = .ref a ∧ (SqL K H a xs ∨ SqT K H a xs) ∧ DpAll K w.h xs ds ∧ ds.length ≤ sizeLine := by
  unfold seq3 at h
  split at h
  · cases h
    obtain ⟨a, xs, rfl, hq, ha⟩ := dp_tup_ref p
    exact ⟨a, xs, rfl, .inr (Same.sqT r.sub hq), ha, len_tup r p⟩
  · obtain ⟨a, xs, h1, h2, h3⟩ := lst3_low r p h
    exact ⟨a, xs, h1, .inl h2, h3⟩
def rAdd3 : R3 := fun x y S Q => match x, y with
  | .p (.int i), .p (.int j) => Q (.p (.int (i + j))) S
  | .p (.tuple a), .p (.tuple b) => a.length + b.length ≤ 16777216 ∧ Q (.p (.tuple (a ++ b))) S
  | .p (.str a), .p (.str b) => a.length + b.length ≤ 16777216 ∧ Q (.p (.str (a ++ b))) S
  | a, b => match lst3 S a, lst3 S b with
    | some ds, some es => ds.length + es.length ≤ 16777216 ∧ Q (.p (.list (ds ++ es))) S
    | _, _ => False
section
variable {X : Cx}
theorem oq_add : OQ X (binaryOp .Add) rAdd3 := opq (op_add.or (op_catA.or (op_add_str.or op_catL))) fun w S d e x y H Q R r0 p1 p2 t q => by
  have hz : sizeLine = 16777216 := sizeLine_eq
  unfold rAdd3 at t
  split at t
  · exact .inl ⟨_, _, dp_int p1, dp_int p2, q.int r0 t⟩
  · rename_i a b
    refine .inr (.inl ?_)
    obtain ⟨l, xs, rfl, hq, ha⟩ := dp_tup_ref p1
    obtain ⟨m, ys, rfl, hq2, ha2⟩ := dp_tup_ref p2
    have hl := DpAll.length ha
    have hl2 := DpAll.length ha2
    refine ⟨l, m, xs, ys, rfl, rfl, Same.sqT r0.sub hq, Same.sqT r0.sub hq2, by omega, fun z => ?_, fun _ z => ?_, fun _ _ => q.tup r0 (DpAll.append ha ha2) (by rw [List.length_append]; omega) t.2⟩
    · subst z
      cases ha
      exact q.old r0 p2 t.2
    · subst z
      cases ha2
      have t2 := t.2
      rw [List.append_nil] at t2
      exact q.old r0 p1 t2
  · exact .inr (.inr (.inl ⟨_, _, dp_str p1, dp_str p2, by omega, q.str r0 t.2⟩))
  · split at t
    · rename_i ds es h1 h2
      obtain ⟨l, xs, rfl, hq, ha, _⟩ := lst3_low r0 p1 h1
      obtain ⟨m, ys, rfl, hq2, ha2, _⟩ := lst3_low r0 p2 h2
      have hl := DpAll.length ha
      have hl2 := DpAll.length ha2
      exact .inr (.inr (.inr ⟨l, m, xs, ys, rfl, rfl, hq, hq2, by omega, q.lst r0 (DpAll.append ha ha2) (by rw [List.length_append]; omega) t.2⟩))
    · exact t.elim
/-- a product of ints: one of them below 2 ^ 64, or both together below a million bits -/
def MulOk (i j : Int) : Prop := (-18446744073709551616 < i ∧ i < 18446744073709551616) ∨ (-18446744073709551616 < j ∧ j < 18446744073709551616) ∨ CMulW i j
def DivOk (_ j : Int) : Prop := 0 < j ∧ (j < 18446744073709551616 ∨ j.natAbs.log2 < 9000)
def PowOk (i j : Int) : Prop := 0 ≤ j ∧ j ≤ 1000000 ∧ -18446744073709551616 < i ∧ i < 18446744073709551616
def rSub3 : R3 := rInt0 fun i j => .int (i - j)
def rMul3 : R3 := rInt MulOk fun i j => .int (i * j)
def rMod3 : R3 := rInt (fun _ j => 0 < j) fun i j => .int (i % j)
def rDiv3 : R3 := rInt DivOk fun i j => .int (i / j)
def rPow3 : R3 := rInt PowOk fun i j => .int (i ^ j.toNat)
theorem oq_sub : OQ X (binaryOp .Sub) rSub3 := oq_int0 op_sub
theorem oq_mul : OQ X (binaryOp .Mult) rMul3 := opq (op_mul.or op_mulW) fun w S d e x y H Q R r0 p1 p2 t q => by
  obtain ⟨i, j, rfl, rfl, hc, t⟩ := rint_inv t
  rcases hc with hc | hc | hc
  · exact .inl ⟨i, j, dp_int p1, dp_int p2, .inl (by omega), q.int r0 t⟩
  · exact .inl ⟨i, j, dp_int p1, dp_int p2, .inr (by omega), q.int r0 t⟩
  · exact .inr ⟨i, j, dp_int p1, dp_int p2, hc, q.int r0 t⟩
theorem oq_mod : OQ X (binaryOp .Mod) rMod3 := oq_int op_mod
theorem DivOk.log {i j : Int} (h : DivOk i j) : CDivW i j := by
  rcases h with ⟨h0, hc | hc⟩
  · refine wide_div (b := 64) h0 ?_ (by decide) (by decide)
    omega
  · exact ⟨h0, hc⟩
theorem oq_div : OQ X (binaryOp .FloorDiv) rDiv3 := opq op_fdivW fun w S d e x y H Q R r0 p1 p2 t q => by
  obtain ⟨i, j, rfl, rfl, hc, t⟩ := rint_inv t
  exact ⟨i, j, dp_int p1, dp_int p2, hc.log, q.int r0 t⟩
theorem oq_pow : OQ X (binaryOp .Pow) rPow3 := opq op_pow fun w S d e x y H Q R r0 p1 p2 t q => by
  obtain ⟨i, j, rfl, rfl, ⟨h0, h1, h2, h3⟩, t⟩ := rint_inv t
  exact ⟨i, j, dp_int p1, dp_int p2, ⟨h0, h1, by omega⟩, q.int r0 t⟩
def rLt3 : R3 := rInt0 fun i j => .bool (decide (i < j))
def rLe3 : R3 := rInt0 fun i j => .bool (decide (i ≤ j))
def rGt3 : R3 := rInt0 fun i j => .bool (decide (j < i))
def rGe3 : R3 := rInt0 fun i j => .bool (decide (j ≤ i))
theorem oq_lt : OQ X (compareOp .Lt) rLt3 := oq_bool0 op_lt
theorem oq_le : OQ X (compareOp .LtE) rLe3 := oq_bool0 op_le
theorem oq_gt : OQ X (compareOp .Gt) rGt3 := oq_bool0 op_gt
theorem oq_ge : OQ X (compareOp .GtE) rGe3 := oq_bool0 op_ge
/-- == of data -/
def rEq3 : R3 := fun x y S Q => match x, y with
  | .p d, .p e => (SeqAt.shaped d = true ∧ SeqAt.shaped e = true) ∧ Q (.p (.bool (PyData.eqv d e))) S
  | _, _ => False
def rNe3 : R3 := fun x y S Q => match x, y with
  | .p d, .p e => (SeqAt.shaped d = true ∧ SeqAt.shaped e = true) ∧ Q (.p (.bool (!PyData.eqv d e))) S
  | _, _ => False
theorem oq_eq (hu : X.A.units + 64 < cLine) : OQ X (compareOp .Eq) rEq3 := opq (op_eqD hu) fun w S d e x y H Q R r0 p1 p2 t q => by
  unfold rEq3 at t
  split at t
  · exact ⟨_, _, (dp_mono r0.sub _ _ p1).sh t.1.1, (dp_mono r0.sub _ _ p2).sh t.1.2, t.1.1, t.1.2, q.bl r0 t.2⟩
  · exact t.elim
theorem oq_ne (hu : X.A.units + 64 < cLine) : OQ X (compareOp .NotEq) rNe3 := opq (op_neD hu) fun w S d e x y H Q R r0 p1 p2 t q => by
  unfold rNe3 at t
  split at t
  · exact ⟨_, _, (dp_mono r0.sub _ _ p1).sh t.1.1, (dp_mono r0.sub _ _ p2).sh t.1.2, t.1.1, t.1.2, q.bl r0 t.2⟩
  · exact t.elim
def isNon : D → Bool
  | .p .none => true
  | _ => false
theorem isNon_low {K : PySem.W.Frag} {w : W3} {v : V} {d : D} (p : RepD K w v d) : decide (v = .non) = isNon d := by
  cases d with
  | loc n =>
    obtain ⟨a, _, rfl⟩ := p
    rfl
  | exc c =>
    obtain ⟨a, _, _, rfl, _⟩ := p
    rfl
  | p d =>
    have p' : Dp K w.h v d := p
    cases p' <;> rfl
def rIs3 : R3 := fun x y S Q => match y with
  | .p .none => Q (.p (.bool (isNon x))) S
  | .p (.bool b) => match x with
    | .p (.bool a) => Q (.p (.bool (a == b))) S
    | _ => False
  | _ => False
def rIsNot3 : R3 := fun x y S Q => match y with
  | .p .none => Q (.p (.bool (!isNon x))) S
  | .p (.bool b) => match x with
    | .p (.bool a) => Q (.p (.bool (a != b))) S
    | _ => False
  | _ => False
theorem oq_is : OQ X (compareOp .Is) rIs3 := opq (op_isN.or op_isBl) fun w S d e x y H Q R r0 p1 p2 t q => by
  unfold rIs3 at t
  split at t
  · refine .inl ⟨dp_non p2, ?_⟩
    rw [isNon_low p1]
    exact q.bl r0 t
  · split at t
    · refine .inr ⟨_, _, dp_bl p1, dp_bl p2, ?_⟩
      rename_i a
      rename_i b _
      refine q.bl r0 ?_
      rw [← Bool.beq_eq_decide_eq]
      exact t
    · exact t.elim
  · exact t.elim
theorem oq_isnot : OQ X (compareOp .IsNot) rIsNot3 := opq (op_notN.or op_notBl) fun w S d e x y H Q R r0 p1 p2 t q => by
  unfold rIsNot3 at t
  split at t
  · refine .inl ⟨dp_non p2, ?_⟩
    rw [isNon_low p1]
    exact q.bl r0 t
  · split at t
    · refine .inr ⟨_, _, dp_bl p1, dp_bl p2, ?_⟩
      rename_i a
      rename_i b _
      refine q.bl r0 ?_
      rw [← Bool.beq_eq_decide_eq]
      exact t
    · exact t.elim
  · exact t.elim
/-- xs[i] -/
theorem atI_dp {K : PySem.W.Frag} {h : Hp} {xs : List V} {ds : List PyData} {i : Int} {d : PyData} (ha : DpAll K h xs ds) (e : atI ds i = some d) : ∃ v, atI xs i = some v ∧ Dp K h v d := by
  unfold atI at e ⊢
  rw [DpAll.length ha]
  cases hj : ixN ds.length i with
  | none => rw [hj] at e; cases e
  | some j =>
    rw [hj] at e
    obtain ⟨v, h1, h2⟩ := DpAll.get ha (show ds[j]? = some d from e)
    exact ⟨v, h1, h2⟩
def rIx3 : R3 := fun x y S Q => match y with
  | .p (.int i) => (match x with
    | .p (.str z) => z.length ≤ 16777216 ∧ (match atI z.cps.toList i with
      | some c => Q (.p (.str ⟨#[c]⟩)) S
      | none => False)
    | _ => match seq3 S x with
      | some ds => (match atI ds i with
        | some d => Q (.p d) S
        | none => False)
      | none => False)
  | _ => False
theorem iq_seq : IQ X rIx3 := IxR.imp ix_seq fun x y H R ⟨w, S, d, e, Q, r0, p1, p2, t, q⟩ => by
  have hz : sizeLine = 16777216 := sizeLine_eq
  unfold rIx3 at t
  split at t
  · have hy := dp_int p2
    subst hy
    split at t
    · obtain ⟨hl, t⟩ := t
      split at t
      · rename_i c hc
        exact .inr (.inr ⟨_, _, c, dp_str p1, rfl, by omega, hc, q.str r0 t⟩)
      · exact t.elim
    · split at t
      · rename_i ds h1
        split at t
        rotate_left
        · exact t.elim
        rename_i d' hd
        obtain ⟨a, xs, rfl, hq, ha, _⟩ := seq3_low r0 p1 h1
        obtain ⟨v, h2, h3⟩ := atI_dp ha hd
        rcases hq with hq | hq
        · exact .inl ⟨a, xs, _, v, rfl, rfl, hq, h2, q.old (d := .p d') r0 h3 t⟩
        · exact .inr (.inl ⟨a, xs, _, v, rfl, rfl, hq, h2, q.old (d := .p d') r0 h3 t⟩)
      · exact t.elim
  · exact t.elim
/-! #### built-ins -/
def rLen3 : C3 := fun ds S Q => match ds with
  | [.p (.str z)] => z.length ≤ 16777216 ∧ Q (.p (.int z.length)) S
  | [d] => match seq3 S d with
    | some es => Q (.p (.int es.length)) S
    | none => False
  | _ => False
theorem rds1 {K : PySem.W.Frag} {w : W3} {vs : List V} {d : D} (h : RepDs K w vs [d]) : ∃ v, vs = [v] ∧ RepD K w v d := by
  match vs, h with
  | [v], h => exact ⟨v, rfl, h.1⟩
  | [], h => exact h.elim
  | _ :: _ :: _, h => exact h.2.elim
theorem rds2 {K : PySem.W.Frag} {w : W3} {vs : List V} {d e : D} (h : RepDs K w vs [d, e]) : ∃ v u, vs = [v, u] ∧ RepD K w v d ∧ RepD K w u e := by
  match vs, h with
  | [v, u], h => exact ⟨v, u, rfl, h.1, h.2.1⟩
  | [], h => exact h.elim
  | [_], h => exact h.2.elim
  | _ :: _ :: _ :: _, h => exact h.2.2.elim
theorem cq_len : CQ X (.builtin "len") rLen3 := callq call_len fun w S ds xs H Q R r0 p1 t q => by
  have hz : sizeLine = 16777216 := sizeLine_eq
  unfold rLen3 at t
  split at t
  · obtain ⟨v, rfl, p⟩ := rds1 p1
    have := dp_str p
    subst this
    exact ⟨_, _, rfl, ⟨by omega, rfl⟩, q.int r0 t.2⟩
  · obtain ⟨v, rfl, p⟩ := rds1 p1
    split at t
    · rename_i es h1
      obtain ⟨a, ys, rfl, hq, ha, _⟩ := seq3_low r0 p h1
      have hl := DpAll.length ha
      refine ⟨_, es.length, rfl, ?_, q.int r0 t⟩
      rcases hq with hq | hq
      · exact .inl ⟨ys, hq, hl.symm⟩
      · exact .inr ⟨ys, hq, hl.symm⟩
    · exact t.elim
  · exact t.elim
def rIntOf3 : C3 := fun ds S Q => match ds with
  | [.p (.int i)] => Q (.p (.int i)) S
  | [.p (.bool b)] => Q (.p (.int (if b then 1 else 0))) S
  | _ => False
theorem cq_int : CQ X (.type "int") rIntOf3 := callq call_int1 fun w S ds xs H Q R r0 p1 t q => by
  unfold rIntOf3 at t
  split at t
  · obtain ⟨v, rfl, p⟩ := rds1 p1
    have := dp_int p
    subst this
    exact .inl ⟨_, rfl, q.int r0 t⟩
  · obtain ⟨v, rfl, p⟩ := rds1 p1
    have := dp_bl p
    subst this
    exact .inr ⟨_, rfl, q.int r0 t⟩
  · exact t.elim
def rInt2 (g : Int → Int → Int) : C3 := fun ds S Q => match ds with
  | [.p (.int i), .p (.int j)] => Q (.p (.int (g i j))) S
  | _ => False
theorem cq_max2 (hc : X.calm = true) : CQ X (.builtin "max") (rInt2 fun i j => if j > i then j else i) := callq (call_max2 hc) fun w S ds xs H Q R r0 p1 t q => by
  unfold rInt2 at t
  split at t
  · obtain ⟨v, u, rfl, p, p'⟩ := rds2 p1
    have := dp_int p
    subst this
    have := dp_int p'
    subst this
    exact ⟨_, _, rfl, q.int r0 t⟩
  · exact t.elim
theorem cq_min2 (hc : X.calm = true) : CQ X (.builtin "min") (rInt2 fun i j => if j < i then j else i) := callq (call_min2 hc) fun w S ds xs H Q R r0 p1 t q => by
  unfold rInt2 at t
  split at t
  · obtain ⟨v, u, rfl, p, p'⟩ := rds2 p1
    have := dp_int p
    subst this
    have := dp_int p'
    subst this
    exact ⟨_, _, rfl, q.int r0 t⟩
  · exact t.elim
def rTupOf3 : C3 := fun ds S Q => match ds with
  | [d] => match seq3 S d with
    | some es => Q (.p (.tuple es)) S
    | none => False
  | _ => False
theorem cq_tuple : CQ X (.type "tuple") rTupOf3 := callq call_tuple_of fun w S ds xs H Q R r0 p1 t q => by
  unfold rTupOf3 at t
  split at t
  · obtain ⟨v, rfl, p⟩ := rds1 p1
    split at t
    · rename_i es h1
      unfold seq3 at h1
      split at h1
      · cases h1
        obtain ⟨a, ys, rfl, hq, ha⟩ := dp_tup_ref p
        exact ⟨a, ys, rfl, .inr ⟨Same.sqT r0.sub hq, q.old r0 p t⟩⟩
      · obtain ⟨a, ys, rfl, hq, ha, hz⟩ := lst3_low r0 p h1
        exact ⟨a, ys, rfl, .inl ⟨hq, q.tup r0 ha hz t⟩⟩
    · exact t.elim
  · exact t.elim
/-- isinstance(x, T), T the name of a built-in class -/
def tyOf : PyData → String
  | .none => "NoneType"
  | .bool _ => "bool"
  | .int _ => "int"
  | .str _ => "str"
  | .list _ => "list"
  | .tuple _ => "tuple"
  | .dict _ => "dict"
end
end L3

namespace L3
open PySem PySem.Spec PyProof.Rows L2
/-! ### own lists changed -/
def own3 (S : S3) : D → Option (Nat × List PyData)
  | .loc n => match S[n]? with
    | some (some (.lst ds)) => some (n, ds)
    | _ => none
  | _ => none
theorem own3_low {K : PySem.W.Frag} {w : W3} {H : Hp} {S : S3} {v : V} {d : D} {n : Nat} {ds : List PyData} (r : Rel3 K w H S) (p : RepD K w v d) (h : own3 S d = some (n, ds)) :
    ∃ a xs, v = .ref a ∧ d = .loc n ∧ w.al[n]? = some a ∧ S[n]? = some (some (.lst ds)) ∧ H a = some (.lst xs) ∧ DpAll K w.h xs ds ∧ ds.length ≤ sizeLine := by
  unfold own3 at h
  split at h
  · split at h
    · rename_i es hs
      cases h
      obtain ⟨a, ha, rfl⟩ := p
      obtain ⟨_, u, hu, xs, rfl, hd, hz⟩ := r.live n a _ ha hs
      exact ⟨a, xs, rfl, rfl, ha, hs, hu, hd, hz⟩
    · cases h
  · cases h
/-- o[i] = e -/
def tPut3 (te to ti : TE3) : TS3 := fun D env S => te env S fun v S1 => to env S1 fun o S2 => ti env S2 fun i S3 => match own3 S3 o, i, v with
  | some (n, ds), .p (.int k), .p d => (match ixN ds.length k with
    | some j => D.nx env (S3.set n (some (.lst (ds.set j d))))
    | none => False)
  | _, _, _ => False
section
variable {X : Cx} {o i e : Expr} {to ti te : TE3} {pos pos' apos cpos : Pos}
theorem qs_put (he : QE X e te) (ho : QE X o to) (hi : QE X i ti)
    (ha : ∀ v, assign (.Subscript o i pos') X.env v = (do
      let ov ← holding [v] (eval o X.env)
      let iv ← holding [v, ov] (eval i X.env)
      standAt pos'
      holding [v, ov, iv] (setItem ov iv v)
      release [v, ov, iv] []) := by intro _; rfl) (hs : swapsWithSole [.Subscript o i pos'] e pos.line X.env = pure false := by rfl) (hw : swappedStores [.Subscript o i pos'] e X.env = pure none := by rfl)
    (h1 : (assignEach [.Subscript o i pos'] X.env).map (·.2) = [assign (.Subscript o i pos') X.env] := by rfl) : QS X (.Assign [.Subscript o i pos'] e pos) (tPut3 te to ti) :=
  (ps_asg he (pg_sub ho hi set_list ha) hs hw h1).imp fun D σ H ⟨w, env, S, D3, r0, en, t, q⟩ => by
    refine ⟨w, env, S, _, r0, en, t, fun w1 v d H1 S1 e1 r1 p1 t1 => ?_⟩
    refine ⟨w1, env, S1, _, r1, en.mono e1, t1, fun w2 u c H2 S2 e2 r2 p2 t2 => ?_⟩
    refine ⟨w2, env, S2, _, r2, (en.mono e1).mono e2, t2, fun w3 z b H3 S3 e3 r3 p3 t3 => ?_⟩
    have p2' := p2.mono e3
    have p1' := (p1.mono e2).mono e3
    split at t3
    · rename_i n ds k d' ho'
      split at t3
      rotate_left
      · exact t3.elim
      rename_i j hj
      obtain ⟨a, xs, rfl, rfl, ha, hs, hu, hd, hz⟩ := own3_low r3 p2' ho'
      refine ⟨a, xs, k, j, rfl, dp_int p3, hu, by rw [DpAll.length hd]; exact hj, ?_⟩
      exact q.nx w3 σ _ env _ ((e1.trans e2).trans e3) (r3.put (o' := .lst (ds.set j d')) ha hs ⟨_, rfl, DpAll.set p1' j hd, by rw [List.length_set]; exact hz⟩) (((en.mono e1).mono e2).mono e3) t3
    · exact t3.elim
/-- xs.append(e) -/
def tApp3 (to te : TE3) : TE3 := fun env S Q => to env S fun o S1 => match own3 S1 o with
  | some _ => te env S1 fun v S2 => match own3 S2 o, v with
    | some (n, ds), .p d => ds.length < 16777216 ∧ Q (.p .none) (S2.set n (some (.lst (ds ++ [d]))))
    | _, _ => False
  | none => False
theorem qe_append (ho : QE X o to) (he : QE X e te) (hbase : attributeBase o "append" X.env (eval o X.env) = eval o X.env := by rfl)
    (hfew : ((backTo cpos (starEach [e] X.env)).all (fun x => !x.1) && (backToKw cpos (keywordEach [] X.env)).all (fun x => x.1.isSome)
      && decide (([e] : List Expr).length + ([] : List Keyword).length + (if ([] : List Keyword).isEmpty then 0 else 1) < 30)) = true := by rfl)
    (hline : (apos.endLine == cpos.line) = true := by rfl) (hs : starEach [e] X.env = (false, eval e X.env) :: starEach [] X.env := by rfl) (hplain : (backTo cpos (starEach [] X.env)).any (·.1) = false := by rfl) :
    QE X (.Call (.Attribute o "append" apos) [e] [] cpos) (tApp3 to te) :=
  (pe_bm PySem.F.plainAttrs_list PySem.F.slot_list_append PySem.F.type_list_append mt_append ho (pa_cons he pa_nil hs) hbase hfew hline hs hplain).imp fun σ H R ⟨w, env, S, Q, r0, en, t, q⟩ => by
    have hz : sizeLine = 16777216 := sizeLine_eq
    refine ⟨w, env, S, _, r0, en, t, fun w1 v d H1 S1 e1 r1 p1 t1 => ?_⟩
    split at t1
    · rename_i nd ho1
      obtain ⟨n0, ds0⟩ := nd
      obtain ⟨a0, xs0, rfl, hd0, _, _, hu0, _, _⟩ := own3_low r1 p1 ho1
      refine ⟨.inl ⟨rfl, xs0, .inl (.inl hu0)⟩, ?_⟩
      refine ⟨w1, env, S1, _, r1, en.mono e1, t1, fun w2 u c H2 S2 e2 r2 p2 t2 => ?_⟩
      split at t2
      · rename_i n ds d' ho2
        obtain ⟨a, xs, hva, rfl, ha, hs, hu, hd, hzz⟩ := own3_low r2 (p1.mono e2) ho2
        cases hva
        have hl := DpAll.length hd
        refine ⟨_, xs, u, rfl, rfl, hu, by omega, ?_⟩
        exact q w2 .non (.p .none) _ _ (e1.trans e2) (r2.put (o' := .lst (ds ++ [d'])) ha hs ⟨_, rfl, DpAll.append hd (.cons p2 .nil), by rw [List.length_append, List.length_singleton]; omega⟩) rep_non t2.2
      · exact t2.elim
    · exact t1.elim
/-- xs.pop() -/
def tPop3 (to : TE3) : TE3 := fun env S Q => to env S fun o S1 => match own3 S1 o with
  | some (n, ds) => (match ds.getLast? with
    | some d => Q (.p d) (S1.set n (some (.lst ds.dropLast)))
    | none => False)
  | none => False
theorem DpAll.dropLast {K : PySem.W.Frag} {h : Hp} {vs : List V} {ds : List PyData} (r : DpAll K h vs ds) : DpAll K h vs.dropLast ds.dropLast := by
  rw [List.dropLast_eq_take, List.dropLast_eq_take, DpAll.length r]
  exact DpAll.take _ r
theorem qe_pop (ho : QE X o to) (hbase : attributeBase o "pop" X.env (eval o X.env) = eval o X.env := by rfl) (hline : (apos.endLine == cpos.line) = true := by rfl) :
    QE X (.Call (.Attribute o "pop" apos) [] [] cpos) (tPop3 to) :=
  (pe_bm0 PySem.F.plainAttrs_list PySem.F.slot_list_pop PySem.F.type_list_pop mt_pop ho hbase hline).imp fun σ H R ⟨w, env, S, Q, r0, en, t, q⟩ => by
    refine ⟨w, env, S, _, r0, en, t, fun w1 v d H1 S1 e1 r1 p1 t1 => ?_⟩
    split at t1
    · rename_i n ds ho1
      split at t1
      rotate_left
      · exact t1.elim
      rename_i d' hd'
      rw [List.getLast?_eq_getElem?] at hd'
      obtain ⟨a, xs, rfl, rfl, ha, hs, hu, hd, hz⟩ := own3_low r1 p1 ho1
      obtain ⟨u, h1, h2⟩ := DpAll.get hd hd'
      refine ⟨.inl ⟨rfl, xs, .inl (.inl hu)⟩, a, xs, u, rfl, rfl, hu, by rw [DpAll.length hd]; exact h1, ?_⟩
      exact q w1 u (.p d') _ _ e1 (r1.put (o' := .lst ds.dropLast) ha hs ⟨_, rfl, DpAll.dropLast hd, by rw [List.length_dropLast]; omega⟩) h2 t1
    · exact t1.elim
/-- xs.pop(i) -/
def tPopAt3 (to ti : TE3) : TE3 := fun env S Q => to env S fun o S1 => match own3 S1 o with
  | some _ => ti env S1 fun i S2 => match own3 S2 o, i with
    | some (n, ds), .p (.int k) => (match ixN ds.length k with
      | some j => (match ds[j]? with
        | some d => Q (.p d) (S2.set n (some (.lst (ds.eraseIdx j))))
        | none => False)
      | none => False)
    | _, _ => False
  | none => False
theorem qe_popAt (ho : QE X o to) (he : QE X e te) (hbase : attributeBase o "pop" X.env (eval o X.env) = eval o X.env := by rfl)
    (hfew : ((backTo cpos (starEach [e] X.env)).all (fun x => !x.1) && (backToKw cpos (keywordEach [] X.env)).all (fun x => x.1.isSome)
      && decide (([e] : List Expr).length + ([] : List Keyword).length + (if ([] : List Keyword).isEmpty then 0 else 1) < 30)) = true := by rfl)
    (hline : (apos.endLine == cpos.line) = true := by rfl) (hs : starEach [e] X.env = (false, eval e X.env) :: starEach [] X.env := by rfl) (hplain : (backTo cpos (starEach [] X.env)).any (·.1) = false := by rfl) :
    QE X (.Call (.Attribute o "pop" apos) [e] [] cpos) (tPopAt3 to te) :=
  (pe_bm PySem.F.plainAttrs_list PySem.F.slot_list_pop PySem.F.type_list_pop mt_popAt ho (pa_cons he pa_nil hs) hbase hfew hline hs hplain).imp fun σ H R ⟨w, env, S, Q, r0, en, t, q⟩ => by
    have hz : sizeLine = 16777216 := sizeLine_eq
    refine ⟨w, env, S, _, r0, en, t, fun w1 v d H1 S1 e1 r1 p1 t1 => ?_⟩
    split at t1
    · rename_i nd ho1
      obtain ⟨n0, ds0⟩ := nd
      obtain ⟨a0, xs0, rfl, hd0, _, _, hu0, _, _⟩ := own3_low r1 p1 ho1
      refine ⟨.inl ⟨rfl, xs0, .inl (.inl hu0)⟩, ?_⟩
      refine ⟨w1, env, S1, _, r1, en.mono e1, t1, fun w2 u c H2 S2 e2 r2 p2 t2 => ?_⟩
      split at t2
      · rename_i n ds k ho2
        split at t2
        rotate_left
        · exact t2.elim
        rename_i j hj
        split at t2
        rotate_left
        · exact t2.elim
        rename_i d' hd'
        obtain ⟨a, xs, hva, rfl, ha, hs, hu, hd, hzz⟩ := own3_low r2 (p1.mono e2) ho2
        cases hva
        have hl := DpAll.length hd
        obtain ⟨h1, h2, h3, h4⟩ := ixN_seq hj
        obtain ⟨y, h5, h6⟩ := DpAll.get hd hd'
        have := dp_int p2
        subst this
        refine ⟨_, xs, k, j, y, rfl, rfl, hu, by omega, by omega, by rw [hl]; exact h1, h5, ?_⟩
        exact q w2 y (.p d') _ _ (e1.trans e2) (r2.put (o' := .lst (ds.eraseIdx j)) ha hs ⟨_, rfl, DpAll.eraseIdx j hd, Nat.le_trans (List.length_eraseIdx_le ..) hzz⟩) (RepD.mono0 (Ex3.refl w2).toEx0 h6) t2
      · exact t2.elim
    · exact t1.elim

/-! ### isinstance(x, T) -/
def isTy (T : String) : PyData → Bool
  | .none => T == "NoneType"
  | .bool _ => T == "bool" || T == "int"
  | .int _ => T == "int"
  | .str _ => T == "str"
  | .list _ => T == "list"
  | .tuple _ => T == "tuple"
  | .dict _ => T == "dict"
def tIsi3 (T : String) (te : TE3) : TE3 := fun env S Q => te env S fun x S1 => match x with
  | .p d => Q (.p (.bool (isTy T d))) S1
  | .loc n => match S1[n]? with
    | some (some (.lst _)) => Q (.p (.bool (T == "list"))) S1
    | some (some (.dic _)) => Q (.p (.bool (T == "dict"))) S1
    | _ => False
  | _ => False
def kitAll (T : String) : Bool := decide (kitB "NoneType" T = some (T == "NoneType")) && decide (kitB "bool" T = some (T == "bool" || T == "int")) && decide (kitB "int" T = some (T == "int")) && decide (kitB "str" T = some (T == "str")) && decide (kitB "list" T = some (T == "list")) && decide (kitB "tuple" T = some (T == "tuple")) && decide (kitB "dict" T = some (T == "dict"))
theorem isi_low {K : PySem.W.Frag} {w : W3} {H : Hp} {S : S3} {v : V} {d : PyData} {T : String} (hk : kitAll T = true) (r : Rel3 K w H S) (p : Dp K w.h v d) : ∃ t, TyX K H v t ∧ PySem.W.kitOne K t (.type T) = some (isTy T d) := by
  unfold kitAll at hk
  simp only [Bool.and_eq_true, decide_eq_true_eq] at hk
  obtain ⟨⟨⟨⟨⟨⟨k1, k2⟩, k3⟩, k4⟩, k5⟩, k6⟩, k7⟩ := hk
  cases p with
  | non => exact ⟨_, .base .non, kit_ty k1⟩
  | bl b => exact ⟨_, .base (.bl b), kit_ty k2⟩
  | int i => exact ⟨_, .base (.int i), kit_ty k3⟩
  | str x => exact ⟨_, .base (.str x), kit_ty k4⟩
  | lst hs ha =>
    rcases hs with (hs | ⟨o, hs⟩) | ⟨o, its, n, hk, hc, _, hd, _, _⟩
    · exact ⟨_, .base (.lst (r.sub _ _ hs)), kit_ty k5⟩
    · exact ⟨_, .base (.frz (r.sub _ _ hs)), kit_ty k5⟩
    · exact ⟨_, .kList hk hc, kit_ty k5⟩
  | tup hs ha =>
    rcases hs with (hs | ⟨o, hs⟩) | ⟨o, its, n, hk, hc, hd, _, _⟩
    · exact ⟨_, .base (.tup (r.sub _ _ hs)), kit_ty k6⟩
    · exact ⟨_, .fTuple (r.sub _ _ hs), kit_ty k6⟩
    · exact ⟨_, .kTuple hk hc, kit_ty k6⟩
  | dct hs ha => exact ⟨_, .base (.dK (r.sub _ _ hs)), kit_ty k7⟩
theorem qe_isi {T : String} {x : Str} {pi px : Pos} (hk : kitAll T = true) (hg : Gl X "isinstance") (hm : X.mg "isinstance" = none) (hgx : Gl X x) (hmx : X.mg x = none) (hvx : bootBuiltins x = some (.type T)) (hnx : x ≠ "__name__") (hdx : (x == ("__debug__" : Str)) = false) (he : QE X e te)
    (h1 : starEach [e, .Name x px] X.env = (false, eval e X.env) :: starEach [.Name x px] X.env := by rfl) (h2 : starEach [.Name x px] X.env = (false, eval (.Name x px) X.env) :: starEach [] X.env := by rfl) (hpl : (backTo pos (starEach [.Name x px] X.env)).any (·.1) = false := by rfl) :
    QE X (.Call (.Name "isinstance" pi) [e, .Name x px] [] pos) (tIsi3 T te) :=
  (pe_callB call_isi hg hm (by decide +kernel) (pa_cons he (pa_cons (pe_bltn (v := .ty T) hgx hmx hvx rfl hnx hdx) pa_nil h2) h1) (by decide) (by decide) h1 hpl).imp fun σ H R ⟨w, env, S, Q, r0, en, t, q⟩ => by
    refine ⟨w, env, S, _, r0, en, t, fun w1 v d H1 S1 e1 r1 p1 t1 => ?_⟩
    split at t1
    · rename_i d
      obtain ⟨ty, h3, h4⟩ := isi_low hk r1 p1
      exact ⟨v, .ty T, ty, .type T, _, rfl, .ty T, h3, h4, q _ _ _ _ _ e1 r1 rep_bl t1⟩
    · unfold kitAll at hk
      simp only [Bool.and_eq_true, decide_eq_true_eq] at hk
      obtain ⟨⟨⟨⟨⟨⟨k1, k2⟩, k3⟩, k4⟩, k5⟩, k6⟩, k7⟩ := hk
      obtain ⟨a, ha, rfl⟩ := p1
      split at t1
      · rename_i ds hs
        obtain ⟨_, u, hu, xs, rfl, hd, hz⟩ := r1.live _ a _ ha hs
        exact ⟨_, .ty T, _, .type T, _, rfl, .ty T, .base (.lst hu), kit_ty k5, q _ _ _ _ _ e1 r1 rep_bl t1⟩
      · rename_i ds hs
        obtain ⟨_, u, hu, xs, rfl, hd⟩ := r1.live _ a _ ha hs
        exact ⟨_, .ty T, _, .type T, _, rfl, .ty T, .base (.dT hu), kit_ty k7, q _ _ _ _ _ e1 r1 rep_bl t1⟩
      · exact t1.elim
    · exact t1.elim
end
/-! ### a law's own entry -/
theorem dpAll_ints {K : PySem.W.Frag} {h : Hp} : ∀ ns : List Int, DpAll K h (ns.map V.int) (ns.map PyData.int)
  | [] => .nil
  | n :: ns => .cons (.int n) (dpAll_ints ns)
def spLaw3 : Sp3 := fun ds S Q => ∃ ns : List Int, ds = [.p (.list (ns.map PyData.int))] ∧ ns.length ≤ 63 ∧ S = [] ∧ ∀ S', Q (.p (.bool true)) S'
theorem law_in {K : PySem.W.Frag} {H : Hp} {a : Addr} {ns : List Int} {Q : VK} (hl : ns.length ≤ 63) (hS : SqL K H a (ns.map V.int)) (hQ : ∀ H', Q (.bl true) H') : lowC K spLaw3 [.ref a] H Q := by
  have hz : sizeLine = 16777216 := sizeLine_eq
  have fin : ∀ w : W3, Rel3 K w H [] → SqL K w.h a (ns.map V.int) → lowC K spLaw3 [.ref a] H Q := fun w r hq => by
    refine ⟨w, [], [.p (.list (ns.map PyData.int))], fun d _ => d = .p (.bool true), r, ⟨.lst hq (dpAll_ints ns), trivial⟩, ⟨ns, rfl, hl, rfl, fun _ => rfl⟩, fun w' v d H' S' e r' p h => ?_⟩
    subst h
    have := dp_bl p
    subst this
    exact hQ H'
  have tracked : ∀ u, H a = some u → (u = .lst (ns.map V.int) ∨ ∃ o, u = .frz o (.lst (ns.map V.int))) → lowC K spLaw3 [.ref a] H Q := fun u hu hk => by
    refine fin ⟨[], upd (fun _ => none) a u, []⟩ ⟨fun b x e => ?_, fun b x e => ?_, rfl, fun n b o e => by simp at e, fun n b e => by simp at e, List.nodup_nil, fun b x hb => by simp at hb, PnOk.nil⟩ ?_
    · have e' : upd (fun _ => none) a u b = some x := e
      by_cases hb : b = a
      · subst hb
        rw [upd_same] at e'
        cases e'
        exact hu
      · rw [upd_ne hb] at e'
        cases e'
    · have e' : upd (fun _ => none) a u b = some x := e
      by_cases hb : b = a
      · subst hb
        rw [upd_same] at e'
        cases e'
        rcases hk with rfl | ⟨o, rfl⟩
        · show (ns.map V.int).length ≤ _
          rw [List.length_map]
          omega
        · show (ns.map V.int).length ≤ _
          rw [List.length_map]
          omega
      · rw [upd_ne hb] at e'
        cases e'
    · rcases hk with rfl | ⟨o, rfl⟩
      · exact .inl (.inl (upd_same (H := fun _ => none) (a := a)))
      · exact .inl (.inr ⟨o, upd_same (H := fun _ => none) (a := a)⟩)
  rcases hS with (h | ⟨o, h⟩) | h
  · exact tracked _ h (.inl rfl)
  · exact tracked _ h (.inr ⟨o, rfl⟩)
  · exact fin ⟨[], fun _ => none, []⟩ ⟨(fun b x e => nomatch e), (fun b x e => nomatch e), rfl, (fun n b o e => by simp at e), (fun n b e => by simp at e), List.nodup_nil, (fun b x hb => by simp at hb), PnOk.nil⟩ (.inr h)
/-! ### repr of ints, None, truths -/
def rRepr3 : C3 := fun ds S Q => match ds with
  | [.p (.int i)] => i.natAbs.log2 < 1920 ∧ Q (.p (.str (toString i))) S
  | [.p .none] => Q (.p (.str "None")) S
  | _ => False
section
variable {X : Cx}
theorem call_repr_i : CallR X (.builtin "repr") (fun xs H Q => (∃ i, xs = [.int i] ∧ i.natAbs.log2 < 1920 ∧ Q (.str (toString i)) H) ∨ (xs = [.non] ∧ Q (.str "None") H)) := by
  intro pins s σ H xs us Q I r h
  rcases h with ⟨i, rfl, hz, q⟩ | ⟨rfl, q⟩
  · obtain ⟨u, rfl, t, rfl⟩ := vals1 r
    exact PySem.P.repr_of_int hz ⟨.str _, H, I.tok _, ⟨_, rfl⟩, q⟩
  · obtain ⟨u, rfl, r1⟩ := vals1 r
    cases r1
    exact PySem.P.repr_of_none ⟨.str _, H, I.tok _, ⟨_, rfl⟩, q⟩
theorem cq_repr : CQ X (.builtin "repr") rRepr3 := callq call_repr_i fun w S ds xs H Q R r0 p1 t q => by
  unfold rRepr3 at t
  split at t
  · obtain ⟨v, rfl, p⟩ := rds1 p1
    have := dp_int p
    subst this
    exact .inl ⟨_, rfl, t.1, q.str r0 t.2⟩
  · obtain ⟨v, rfl, p⟩ := rds1 p1
    have := dp_non p
    subst this
    exact .inr ⟨rfl, q.str r0 t⟩
  · exact t.elim
def rNeg3 : U3 := fun x S Q => match x with
  | .p (.int i) => Q (.p (.int (-i))) S
  | _ => False
theorem uq_neg : UQ X (unaryOp .USub) rNeg3 := UnR.imp un_neg fun x H R ⟨w, S, d, Q, r0, p, t, q⟩ => by
  unfold rNeg3 at t
  split at t
  · exact ⟨_, dp_int p, q.int r0 t⟩
  · exact t.elim
end
end L3

namespace L3
open PySem PySem.Spec PyProof.Rows L2
/-! ### for readings -/
theorem eqv_int (a b : Int) : PyData.eqv (.int a) (.int b) = (a == b) := by simp [PyData.eqv]
theorem eqv_bool (a b : Bool) : PyData.eqv (.bool a) (.bool b) = (a == b) := by simp [PyData.eqv]
theorem eqv_str (a b : Str) : PyData.eqv (.str a) (.str b) = (a == b) := by simp [PyData.eqv]
theorem eqv_ni (a : Int) : PyData.eqv .none (.int a) = false := by simp [PyData.eqv]
theorem eqv_in (a : Int) : PyData.eqv (.int a) .none = false := by simp [PyData.eqv]
theorem shaped_int (a : Int) : SeqAt.shaped (.int a) = true := rfl
theorem shaped_bool (a : Bool) : SeqAt.shaped (.bool a) = true := rfl
theorem shaped_none : SeqAt.shaped .none = true := rfl
theorem strOk_of (s : String) : PyData.strOk (PySem.Str.ofString s) = true := by
  rw [PySem.Str.ofString_eq_toList]
  unfold PyData.strOk
  rw [← Array.all_toList]
  simp only [List.all_eq_true, decide_eq_true_eq]
  intro c hc
  obtain ⟨d, _, rfl⟩ := List.mem_map.mp (by simpa using hc)
  have := d.valid
  rcases this with h | ⟨_, h⟩
  · exact Nat.lt_trans h (by decide)
  · exact h
theorem shaped_str {x : Str} (h : PyData.strOk x = true) : SeqAt.shaped (.str x) = true := by
  unfold SeqAt.shaped PyData.canLay0
  rw [h]
  rfl
theorem eqv_str_self (a : Str) : PyData.eqv (.str a) (.str a) = true := by rw [eqv_str]; simp
theorem shaped_ofStr (s : String) : SeqAt.shaped (.str (PySem.Str.ofString s)) = true := shaped_str (strOk_of s)
theorem Fits.nil {L : Nat} : Fits [] [] L := ⟨rfl, fun i d h => by simp [at3] at h⟩
theorem Fits.drop {r r' : E3} {x : Option D} {L : Nat} (h : Fits r r' L) : Fits (x :: r) (none :: r') L := ⟨congrArg (· + 1) h.1, fun i d q => by
  cases i with
  | zero => simp [at3] at q
  | succ i => exact h.2 i d q⟩
theorem Fits.keep {r r' : E3} {x : PyData} {L : Nat} (h : Fits r r' L) : Fits (some (.p x) :: r) (some (.p x) :: r') L := ⟨congrArg (· + 1) h.1, fun i d q => by
  cases i with
  | zero =>
    simp [at3] at q
    subst q
    exact ⟨rfl, trivial⟩
  | succ i => exact h.2 i d q⟩
theorem Fits.loc {r r' : E3} {n L : Nat} (hn : n < L) (h : Fits r r' L) : Fits (some (.loc n) :: r) (some (.loc n) :: r') L := ⟨congrArg (· + 1) h.1, fun i d q => by
  cases i with
  | zero =>
    simp [at3] at q
    subst q
    exact ⟨rfl, hn⟩
  | succ i => exact h.2 i d q⟩
theorem wk_self {n : Nat} {I : E3 → S3 → Prop} {e : E3} {s : S3} (h : I e s) : Wk n I e s := .inl h
/-- a hand of three ints at n -/
def Hd (S : S3) (n : Nat) : Prop := ∃ g x c : Int, S[n]? = some (some (.lst [.int g, .int x, .int c]))
def HdTo (n : Nat) (S S' : S3) : Prop := ∃ g x c : Int, S' = S.set n (some (.lst [.int g, .int x, .int c]))
theorem Hd.lt {S : S3} {n : Nat} (h : Hd S n) : n < S.length := by
  obtain ⟨_, _, _, e⟩ := h
  exact (List.getElem?_eq_some_iff.mp e).1
theorem HdTo.len {S S' : S3} {n : Nat} (h : HdTo n S S') : S'.length = S.length := by
  obtain ⟨_, _, _, rfl⟩ := h
  simp
theorem HdTo.hd {S S' : S3} {n : Nat} (h : HdTo n S S') (h0 : Hd S n) : Hd S' n := by
  obtain ⟨g, x, c, rfl⟩ := h
  exact ⟨g, x, c, by rw [List.getElem?_set_self h0.lt]⟩
theorem HdTo.trans {S S' S'' : S3} {n : Nat} (h : HdTo n S S') (h' : HdTo n S' S'') : HdTo n S S'' := by
  obtain ⟨g, x, c, rfl⟩ := h
  obtain ⟨g', x', c', rfl⟩ := h'
  exact ⟨g', x', c', by rw [List.set_set]⟩
theorem fin_hd {n : Nat} {S S' : S3} {Q : K3} {d : PyData} (h : HdTo n S S') (q : Q (.p d) S') : Fin3 S Q (.p d) S' := fin_all (by rw [h.len]; exact Nat.le_refl _) trivial q
theorem ixN_lit (n k : Nat) : ixN n (no_index (@OfNat.ofNat Int k instOfNat)) = if k < n then some k else none := by
  show ixN n ((k : Nat) : Int) = _
  unfold ixN
  rw [if_pos (by omega)]
  by_cases h : k < n
  · rw [if_pos (by omega), if_pos h]
    simp
  · rw [if_neg (by omega), if_neg h]
theorem atI_lit {α : Type} (xs : List α) (k : Nat) : atI xs (no_index (@OfNat.ofNat Int k instOfNat)) = xs[k]? := by
  unfold atI
  rw [ixN_lit]
  by_cases h : k < xs.length
  · rw [if_pos h]
    rfl
  · rw [if_neg h, List.getElem?_eq_none (by omega)]
    rfl
theorem atI_of {α : Type} {xs : List α} {i : Int} {v : α} (h0 : 0 ≤ i) (h : xs[i.toNat]? = some v) : atI xs i = some v := by
  obtain ⟨n, rfl⟩ := Int.eq_ofNat_of_zero_le h0
  exact atI_nat (by simpa using h)
theorem atI_neg1 {α : Type} (xs : List α) : atI xs (-1) = xs.getLast? := by
  unfold atI ixN
  rw [if_neg (by decide)]
  by_cases h : xs = []
  · subst h
    rfl
  · have hl : 0 < xs.length := by
      cases xs with
      | nil => exact absurd rfl h
      | cons => simp
    rw [if_pos (by omega), List.getLast?_eq_getElem?]
    show xs[(-1 + (xs.length : Int)).toNat]? = _
    congr 1
    omega
theorem mulOk_ite (z : Int) (b : Prop) [Decidable b] : MulOk z (if b then 1 else 0) := by
  refine .inr (.inl ?_)
  split <;> constructor <;> decide
instance (i j : Int) : Decidable (MulOk i j) := by unfold MulOk CMulW; infer_instance
instance (i j : Int) : Decidable (DivOk i j) := by unfold DivOk; infer_instance
instance (i j : Int) : Decidable (PowOk i j) := by unfold PowOk; infer_instance
end L3

namespace L3
open PySem PySem.Spec PyProof.Rows L2
/-! ### slices -/
abbrev TO3 := E3 → S3 → (Option Int → S3 → Prop) → Prop
def lowO (K : PySem.W.Frag) (t : TO3) : TO := fun σ H R => ∃ w env S Q, Rel3 K w H S ∧ EnvR K w σ env ∧ t env S Q ∧ ∀ w' o H' S', Ex3 w w' → Rel3 K w' H' S' → Q o S' → R o H'
abbrev QO (X : Cx) (e : Option Expr) (t : TO3) : Prop := PO X e (lowO X.K t)
def tNoPart3 : TO3 := fun _ S Q => Q none S
def tPart3 (te : TE3) : TO3 := fun env S Q => te env S fun x S1 => match x with
  | .p (.int i) => Q (some i) S1
  | _ => False
def cut3 {α : Type} (ds : List α) (lo hi : Option Int) : List α := (ds.drop (HT.sIx ds.length 0 lo)).take (HT.sIx ds.length ds.length hi - HT.sIx ds.length 0 lo)
theorem cut3_len {α : Type} (ds : List α) (lo hi : Option Int) : (cut3 ds lo hi).length ≤ ds.length := by
  unfold cut3
  rw [List.length_take, List.length_drop]
  omega
section
variable {X : Cx} {e : Expr} {te : TE3} {lo hi : Option Expr} {tl th : TO3} {pos p2 : Pos}
theorem qo_none : QO X none tNoPart3 := ⟨fun pins s σ H Q I q => po_none.run pins s σ H Q I (let ⟨w, env, S, Q', r, en, t, q'⟩ := q; q' w none H S (Ex3.refl w) r t)⟩
theorem qo_some (h : QE X e te) : QO X (some e) (tPart3 te) := ⟨fun pins s σ H R I q => (po_some h).run pins s σ H R I (by
  obtain ⟨w, env, S, Q, r, en, t, q⟩ := q
  refine ⟨w, env, S, _, r, en, t, fun w1 v d H1 S1 e1 r1 p1 t1 => ?_⟩
  split at t1
  · exact ⟨_, dp_int p1, q w1 _ H1 S1 e1 r1 t1⟩
  · exact t1.elim)⟩
theorem dp_cut {K : PySem.W.Frag} {h : Hp} {vs : List V} {ds : List PyData} (r : DpAll K h vs ds) (lo hi : Option Int) : DpAll K h (cutV vs lo hi) (cut3 ds lo hi) := by
  unfold cutV cut3
  rw [DpAll.length r]
  exact DpAll.take _ (DpAll.drop _ r)
/-- x[lo:hi]: of a tuple, of a text, of a list (the new one changes no more) -/
def tSl3 (te : TE3) (tl th : TO3) : TE3 := fun env S Q => te env S fun x S1 => tl env S1 fun l S2 => th env S2 fun u S3 => match x with
  | .p (.tuple ds) => Q (.p (.tuple (cut3 ds l u))) S3
  | .p (.str z) => z.length ≤ 16777216 ∧ Q (.p (.str (cutS z l u))) S3
  | d => match lst3 S3 d with
    | some ds => Q (.p (.list (cut3 ds l u))) S3
    | none => False
def tSlN3 (te : TE3) (tl th : TO3) : TN3 := fun env S Q => te env S fun x S1 => tl env S1 fun l S2 => th env S2 fun u S3 => match lst3 S3 x with
  | some ds => Q (cut3 ds l u) S3
  | none => False
theorem cut3_all {α : Type} (ds : List α) (lo hi : Option Int) (h : HT.sIx ds.length 0 lo = 0 ∧ HT.sIx ds.length ds.length hi = ds.length) : cut3 ds lo hi = ds := by
  unfold cut3
  rw [h.1, h.2, List.drop_zero, Nat.sub_zero, List.take_length]
theorem qe_slice (he : QE X e te) (hl : QO X lo tl) (hh : QO X hi th) : QE X (.Subscript e (.Slice lo hi none p2) pos) (tSl3 te tl th) :=
  (pe_slice (SlR.or sl_tupA (SlR.or sl_str sl_list)) he hl hh).imp fun σ H R ⟨w, env, S, Q, r0, en, t, q⟩ => by
    have hz : sizeLine = 16777216 := sizeLine_eq
    refine ⟨w, env, S, _, r0, en, t, fun w1 v d H1 S1 e1 r1 p1 t1 => ?_⟩
    refine ⟨w1, env, S1, _, r1, en.mono e1, t1, fun w2 l H2 S2 e2 r2 t2 => ?_⟩
    refine ⟨w2, env, S2, _, r2, (en.mono e1).mono e2, t2, fun w3 u H3 S3 e3 r3 t3 => ?_⟩
    have p3 := (p1.mono e2).mono e3
    have q3 := (q.mono e1).mono (e2.trans e3)
    split at t3
    · rename_i ds
      obtain ⟨a, xs, rfl, hq, ha⟩ := dp_tup_ref p3
      have hl := DpAll.length ha
      have hlen := len_tup r3 p3
      refine .inl ⟨a, xs, rfl, Same.sqT r3.sub hq, fun hc => ?_, fun _ => q3.tup r3 (dp_cut ha l u) (Nat.le_trans (cut3_len _ _ _) hlen) t3⟩
      rw [hl] at hc
      rw [cut3_all ds l u hc] at t3
      exact q3.old r3 p3 t3
    · have := dp_str p3
      subst this
      exact .inr (.inl ⟨_, rfl, by omega, q3.str r3 t3.2⟩)
    · split at t3
      · rename_i ds h1
        obtain ⟨a, xs, rfl, hq, ha, hlen⟩ := lst3_low r3 p3 h1
        exact .inr (.inr ⟨a, xs, rfl, hq, q3.lst r3 (dp_cut ha l u) (Nat.le_trans (cut3_len _ _ _) hlen) t3⟩)
      · exact t3.elim
theorem qn_slice (he : QE X e te) (hl : QO X lo tl) (hh : QO X hi th) : QN X (.Subscript e (.Slice lo hi none p2) pos) (tSlN3 te tl th) :=
  L2.PE.imp (pe_slice sl_list he hl hh) fun σ H R ⟨w, env, S, Q, r0, en, t, q⟩ => by
    refine ⟨w, env, S, _, r0, en, t, fun w1 v d H1 S1 e1 r1 p1 t1 => ?_⟩
    refine ⟨w1, env, S1, _, r1, en.mono e1, t1, fun w2 l H2 S2 e2 r2 t2 => ?_⟩
    refine ⟨w2, env, S2, _, r2, (en.mono e1).mono e2, t2, fun w3 u H3 S3 e3 r3 t3 => ?_⟩
    have p3 := (p1.mono e2).mono e3
    split at t3
    · rename_i ds h1
      obtain ⟨a, xs, rfl, hq, ha, hlen⟩ := lst3_low r3 p3 h1
      exact ⟨a, xs, rfl, hq, fun p hn => q w3 p _ _ H3 S3 ((e1.trans e2).trans e3) r3 hn (dp_cut ha l u) (Nat.le_trans (cut3_len _ _ _) hlen) t3⟩
    · exact t3.elim
end
/-! ### tuple * int -/
theorem tuple_mul_same (l : Addr) (items : Array Value) (n : Nat) (dd : Option Addr) (sl : Array (Option Value)) (x : Int) (u : Tok) (c0 : (decide (x < -(2 ^ 63)) || decide (x ≥ 2 ^ 63)) = false) (c1 : (items.isEmpty || x == 1) = true) :
    Meets (Builtin.«tuple.__mul__» ⟨[.ref l, .int x u], []⟩) (fun _ R s => s.heap.get? l = some { cls := .type "tuple", dict := dd, data := .seq items n, slots := sl } ∧ R (.ok (.ret (Value.ref l))) s) :=
  .of_wp fun prog w A R s h => by
    obtain ⟨hp, g, d, tk, os⟩ := s
    obtain ⟨hl, h⟩ := h
    have f1 := AutoSeq1.idx_int
    wp_walk using wpAny_loadPart' hl
    repeat (first
      | (refine wpAny_ite_false (decide_eq_false (by rw [c0]; exact Bool.false_ne_true)) ?_; wp_walk using wpAny_loadPart' hl)
      | (refine wpAny_ite_true (decide_eq_true c1) ?_; wp_walk using wpAny_loadPart' hl))
    all_goals first | exact ⟨_, rfl, h⟩ | skip
theorem tuple_mul_none (l : Addr) (items : Array Value) (n : Nat) (dd : Option Addr) (sl : Array (Option Value)) (x : Int) (u : Tok) (c0 : (decide (x < -(2 ^ 63)) || decide (x ≥ 2 ^ 63)) = false) (c1 : (items.isEmpty || x == 1) = false) (c2 : (decide (x ≤ 0) || items.isEmpty) = true) :
    Meets (Builtin.«tuple.__mul__» ⟨[.ref l, .int x u], []⟩) (fun _ R s => s.heap.get? l = some { cls := .type "tuple", dict := dd, data := .seq items n, slots := sl } ∧
      R (.ok (.ret (Value.ref s.heap.objs.size))) { s with heap := s.heap.push { cls := Value.type "tuple", data := Data.seq #[] }, toks := s.toks }) :=
  .of_wp fun prog w A R s h => by
    obtain ⟨hp, g, d, tk, os⟩ := s
    obtain ⟨hl, h⟩ := h
    have f1 := AutoSeq1.idx_int
    wp_walk using wpAny_loadPart' hl
    repeat (first
      | (refine wpAny_ite_false (decide_eq_false (by rw [c0]; exact Bool.false_ne_true)) ?_; wp_walk using wpAny_loadPart' hl)
      | (refine wpAny_ite_false (decide_eq_false (by rw [c1]; exact Bool.false_ne_true)) ?_; wp_walk using wpAny_loadPart' hl)
      | (refine wpAny_ite_true (decide_eq_true c2) ?_; wp_walk using wpAny_loadPart' hl))
    all_goals first | exact ⟨_, rfl, h⟩ | skip
def rRepA (K : PySem.W.Frag) : R2 := fun x y H Q => ∃ l k xs, x = .ref l ∧ y = .int k ∧ SqT K H l xs ∧ -4611686018427387904 ≤ k ∧ k ≤ 16777216 ∧ xs.length * k.toNat ≤ sizeLine ∧
  ((xs = [] ∨ k = 1) → Q (.ref l) H) ∧ (¬ (xs = [] ∨ k = 1) → ∀ p, H p = none → Q (.ref p) (upd H p (.tup (List.replicate k.toNat xs).flatten)))
theorem op_repA {X : Cx} : OpR X (binaryOp .Mult) (rRepA X.K) := by
  intro pins s σ H x y v u Q I rx ry h
  obtain ⟨l, k, xs, rfl, rfl, hT, h1, h2, hz, q1, q2⟩ := h
  cases rx
  obtain ⟨t, rfl⟩ := ry
  obtain ⟨its, r, ⟨⟨cls, dd, data, sl⟩, ho, hc, n, hd⟩, hs⟩ := I.tuple hT
  simp only at hc hd
  subst hc hd
  have hle : its.length = xs.length := r.length.symm
  have hsz0 : its.toArray.size = xs.length := by rw [List.size_toArray, hle]
  have hzl : sizeLine = 16777216 := sizeLine_eq
  have c0 : (decide (k < -(2 ^ 63)) || decide (k ≥ 2 ^ 63)) = false := by
    rw [decide_eq_false (by omega), decide_eq_false (by omega)] <;> rfl
  have hemp : its.toArray.isEmpty = true ↔ xs = [] := by
    rw [Array.isEmpty_iff_size_eq_zero, hsz0]
    exact List.length_eq_zero_iff
  have fin : ∀ {Q' : Value → Shared → Prop}, (call (.builtin "tuple.__mul__") [.ref l, .int k t] : Sem Value) = call (.builtin "tuple.__mul__") [.ref l, .int k t] → True := fun _ => trivial
  by_cases hsame : xs = [] ∨ k = 1
  · have c1 : (its.toArray.isEmpty || k == 1) = true := by
      rcases hsame with h | h
      · rw [hemp.mpr h, Bool.true_or]
      · rw [h]; simp
    refine wpAny_binaryOp_repeat_ref (T := "tuple") (U := "int") (by decide) ⟨_, ho, rfl⟩ (fun s' => typeIs_int s' k t) noFill_tuple_mul F.fills_int_mul F.slot_int_rmul repeat_tuple F.slot_int_index.lookup
      (call_meets F.slot_int_rmul (typeIs_int s k t) F.entry_int_rmul (F.args_int_rmul_2 _ _) (int_rmul_tuple k t l its.toArray n dd sl)
        ⟨ho, rfl, ⟨_, ho, rfl⟩, call_meets F.slot_tuple_mul ⟨_, ho, rfl⟩ F.entry_tuple_mul (F.args_tuple_mul_2 _ _) (tuple_mul_same l its.toArray n dd sl k t c0 c1) ⟨ho, ?_⟩⟩)
    exact ⟨.ref l, H, I, rfl, q1 hsame⟩
  · have c1 : (its.toArray.isEmpty || k == 1) = false := by
      rw [Bool.or_eq_false_iff]
      refine ⟨?_, beq_eq_false_iff_ne.mpr fun z => hsame (.inr z)⟩
      rw [← Bool.not_eq_true]
      exact fun z => hsame (.inl (hemp.mp z))
    have flen : (List.replicate k.toNat its).flatten.length ≤ sizeLine := by
      rw [PyProof.Rows.lm_len_rep_flat, hle, Nat.mul_comm]
      exact hz
    by_cases hk : k ≤ 0
    · have c2 : (decide (k ≤ 0) || its.toArray.isEmpty) = true := by rw [decide_eq_true hk, Bool.true_or]
      refine wpAny_binaryOp_repeat_ref (T := "tuple") (U := "int") (by decide) ⟨_, ho, rfl⟩ (fun s' => typeIs_int s' k t) noFill_tuple_mul F.fills_int_mul F.slot_int_rmul repeat_tuple F.slot_int_index.lookup
        (call_meets F.slot_int_rmul (typeIs_int s k t) F.entry_int_rmul (F.args_int_rmul_2 _ _) (int_rmul_tuple k t l its.toArray n dd sl)
          ⟨ho, rfl, ⟨_, ho, rfl⟩, call_meets F.slot_tuple_mul ⟨_, ho, rfl⟩ F.entry_tuple_mul (F.args_tuple_mul_2 _ _) (tuple_mul_none l its.toArray n dd sl k t c0 c1 c2) ⟨ho, ?_⟩⟩)
      have e0 : k.toNat = 0 := by omega
      have q2' := q2 hsame s.heap.objs.size (I.hok.fresh (Nat.le_refl _))
      rw [e0] at q2'
      refine ⟨.ref s.heap.objs.size, _, I.laid (t' := s.toks) (o := .tup []) (fun b ob q => Heap.get?_push_of_some _ q) (Nat.le_refl _) ?_, rfl, q2'⟩
      exact ⟨Nat.zero_le _, [], .nil, IsTup.new _ _⟩
    · have c2 : (decide (k ≤ 0) || its.toArray.isEmpty) = false := by
        rw [decide_eq_false hk, Bool.false_or]
        exact (Bool.or_eq_false_iff.mp c1).1
      have hm : ((its.toArray.size : Nat) : Int) * k ≤ 16777216 := by
        rw [hsz0]
        have a1 : ((xs.length : Nat) : Int) * k = ((xs.length * k.toNat : Nat) : Int) := by
          rw [Int.natCast_mul]
          congr 1
          omega
        omega
      have c4 : Builtin.Tuple.tupleTooMany (((its.toArray.size : Nat) : Int) * k) = false := by
        unfold Builtin.Tuple.tupleTooMany
        rw [sizeLine_eq]
        exact decide_eq_false (by omega)
      refine wpAny_binaryOp_repeat_ref (T := "tuple") (U := "int") (by decide) ⟨_, ho, rfl⟩ (fun s' => typeIs_int s' k t) noFill_tuple_mul F.fills_int_mul F.slot_int_rmul repeat_tuple F.slot_int_index.lookup
        (call_meets F.slot_int_rmul (typeIs_int s k t) F.entry_int_rmul (F.args_int_rmul_2 _ _) (int_rmul_tuple k t l its.toArray n dd sl)
          ⟨ho, rfl, ⟨_, ho, rfl⟩, call_meets F.slot_tuple_mul ⟨_, ho, rfl⟩ F.entry_tuple_mul (F.args_tuple_mul_2 _ _) (tuple_mulW l its.toArray n dd sl k t c0 c1 c2 (by omega) c4 (by rw [size_rep, List.size_toArray]; exact flen)) ⟨ho, ?_⟩⟩)
      rw [size_rep]
      refine ⟨.ref s.heap.objs.size, _, I.laid (t' := s.toks) (o := .tup (List.replicate k.toNat xs).flatten) (fun b ob q => Heap.get?_push_of_some _ q) (Nat.le_refl _) ?_, rfl, q2 hsame _ (I.hok.fresh (Nat.le_refl _))⟩
      exact ⟨by rw [PyProof.Rows.lm_len_rep_flat, Nat.mul_comm]; exact hz, _, r.rep k.toNat, IsTup.new _ _⟩
/-- a tuple so and so often -/
def rep3 {α : Type} (ds : List α) (k : Int) : List α := (List.replicate k.toNat ds).flatten
theorem rep3_len {α : Type} (ds : List α) (k : Int) : (rep3 ds k).length = ds.length * k.toNat := by
  unfold rep3
  rw [PyProof.Rows.lm_len_rep_flat, Nat.mul_comm]
theorem rep3_one {α : Type} (ds : List α) : rep3 ds 1 = ds := by
  unfold rep3
  simp
theorem rep3_nil {α : Type} (k : Int) : rep3 ([] : List α) k = [] := by
  unfold rep3
  simp
/-- *: of ints, of a tuple and an int -/
def rMulT3 : R3 := fun x y S Q => match x, y with
  | .p (.int i), .p (.int j) => MulOk i j ∧ Q (.p (.int (i * j))) S
  | .p (.tuple ds), .p (.int k) => (-4611686018427387904 ≤ k ∧ k ≤ 16777216 ∧ ds.length * k.toNat ≤ 16777216) ∧ Q (.p (.tuple (rep3 ds k))) S
  | _, _ => False
theorem oq_mulT {X : Cx} : OQ X (binaryOp .Mult) rMulT3 := opq (op_mul.or (op_mulW.or op_repA)) fun w S d e x y H Q R r0 p1 p2 t q => by
  have hz : sizeLine = 16777216 := sizeLine_eq
  unfold rMulT3 at t
  split at t
  · rename_i i j
    obtain ⟨hc, t⟩ := t
    rcases hc with hc | hc | hc
    · exact .inl ⟨i, j, dp_int p1, dp_int p2, .inl (by omega), q.int r0 t⟩
    · exact .inl ⟨i, j, dp_int p1, dp_int p2, .inr (by omega), q.int r0 t⟩
    · exact .inr (.inl ⟨i, j, dp_int p1, dp_int p2, hc, q.int r0 t⟩)
  · rename_i ds k
    obtain ⟨⟨h1, h2, h3⟩, t⟩ := t
    obtain ⟨l, xs, rfl, hq, ha⟩ := dp_tup_ref p1
    have hl := DpAll.length ha
    refine .inr (.inr ⟨l, k, xs, rfl, dp_int p2, Same.sqT r0.sub hq, h1, h2, by rw [hl]; omega, fun hs => ?_, fun _ => q.tup r0 (DpAll.flatten ha k.toNat) (by rw [← rep3, rep3_len]; omega) t⟩)
    rcases hs with hs | hs
    · subst hs
      cases ha
      rw [rep3_nil] at t
      exact q.old r0 p1 t
    · subst hs
      rw [rep3_one] at t
      exact q.old r0 p1 t
  · exact t.elim
/-! ### built-ins over lists -/
def allP {α : Type} (f : PyData → Option α) : List PyData → Option (List α)
  | [] => some []
  | d :: ds => match f d, allP f ds with
    | some x, some xs => some (x :: xs)
    | _, _ => none
def bl? : PyData → Option Bool
  | .bool b => some b
  | _ => none
def int? : PyData → Option Int
  | .int b => some b
  | _ => none
theorem allP_bl : ∀ {ds : List PyData} {bs : List Bool}, allP bl? ds = some bs → ds = bs.map PyData.bool
  | [], _, h => by cases h; rfl
  | d :: ds, bs, h => by
    unfold allP at h
    split at h
    · rename_i x xs h1 h2
      cases h
      rw [List.map_cons, ← allP_bl h2]
      cases d <;> first | (cases h1; rfl) | cases h1
    · cases h
theorem allP_int : ∀ {ds : List PyData} {bs : List Int}, allP int? ds = some bs → ds = bs.map PyData.int
  | [], _, h => by cases h; rfl
  | d :: ds, bs, h => by
    unfold allP at h
    split at h
    · rename_i x xs h1 h2
      cases h
      rw [List.map_cons, ← allP_int h2]
      cases d <;> first | (cases h1; rfl) | cases h1
    · cases h
theorem allP_bls : ∀ bs : List Bool, allP bl? (bs.map PyData.bool) = some bs
  | [] => rfl
  | b :: bs => by rw [List.map_cons]; unfold allP; rw [allP_bls bs]; rfl
theorem allP_ints : ∀ bs : List Int, allP int? (bs.map PyData.int) = some bs
  | [] => rfl
  | b :: bs => by rw [List.map_cons]; unfold allP; rw [allP_ints bs]; rfl
theorem dp_bls {K : PySem.W.Frag} {h : Hp} : ∀ {bs : List Bool} {vs : List V}, DpAll K h vs (bs.map PyData.bool) → vs = bs.map V.bl
  | [], _, r => by cases r; rfl
  | b :: bs, _, r => by
    cases r with
    | cons r1 r2 =>
      cases r1
      rw [dp_bls r2, List.map_cons]
theorem dp_ints {K : PySem.W.Frag} {h : Hp} : ∀ {bs : List Int} {vs : List V}, DpAll K h vs (bs.map PyData.int) → vs = bs.map V.int
  | [], _, r => by cases r; rfl
  | b :: bs, _, r => by
    cases r with
    | cons r1 r2 =>
      cases r1
      rw [dp_ints r2, List.map_cons]
def rBls3 (g : List Bool → PyData) : C3 := fun ds S Q => match ds with
  | [d] => match lst3 S d with
    | some es => (match allP bl? es with
      | some bs => Q (.p (g bs)) S
      | none => False)
    | none => False
  | _ => False
def rInts3 (C : List Int → Prop) (g : List Int → PyData) : C3 := fun ds S Q => match ds with
  | [d] => match lst3 S d with
    | some es => (match allP int? es with
      | some ns => C ns ∧ Q (.p (g ns)) S
      | none => False)
    | none => False
  | _ => False
abbrev rAll3 : C3 := rBls3 fun bs => .bool (bs.all id)
abbrev rAny3 : C3 := rBls3 fun bs => .bool (bs.any id)
def maxI : List Int → Int
  | [] => 0
  | x :: xs => xs.foldl (fun a b => if b > a then b else a) x
def minI : List Int → Int
  | [] => 0
  | x :: xs => xs.foldl (fun a b => if b < a then b else a) x
theorem maxI_go : ∀ (xs : List Int) (x : Int), x ≤ xs.foldl (fun a b => if b > a then b else a) x ∧ (∀ y ∈ xs, y ≤ xs.foldl (fun a b => if b > a then b else a) x) ∧ (xs.foldl (fun a b => if b > a then b else a) x = x ∨ xs.foldl (fun a b => if b > a then b else a) x ∈ xs)
  | [], x => ⟨Int.le_refl _, (fun y h => nomatch h), .inl rfl⟩
  | z :: xs, x => by
    rw [List.foldl_cons]
    obtain ⟨h1, h2, h3⟩ := maxI_go xs (if z > x then z else x)
    refine ⟨?_, fun y hy => ?_, ?_⟩
    · split at h1 <;> rename_i hc <;> simp only [hc, if_true, if_false] <;> omega
    · rcases List.mem_cons.mp hy with rfl | hy
      · split at h1 <;> rename_i hc <;> simp only [hc, if_true, if_false] <;> omega
      · exact h2 y hy
    · rcases h3 with h3 | h3
      · rw [h3]
        split
        · exact .inr List.mem_cons_self
        · exact .inl rfl
      · exact .inr (List.mem_cons_of_mem _ h3)
theorem minI_go : ∀ (xs : List Int) (x : Int), xs.foldl (fun a b => if b < a then b else a) x ≤ x ∧ (∀ y ∈ xs, xs.foldl (fun a b => if b < a then b else a) x ≤ y) ∧ (xs.foldl (fun a b => if b < a then b else a) x = x ∨ xs.foldl (fun a b => if b < a then b else a) x ∈ xs)
  | [], x => ⟨Int.le_refl _, (fun y h => nomatch h), .inl rfl⟩
  | z :: xs, x => by
    rw [List.foldl_cons]
    obtain ⟨h1, h2, h3⟩ := minI_go xs (if z < x then z else x)
    refine ⟨?_, fun y hy => ?_, ?_⟩
    · split at h1 <;> rename_i hc <;> simp only [hc, if_true, if_false] <;> omega
    · rcases List.mem_cons.mp hy with rfl | hy
      · split at h1 <;> rename_i hc <;> simp only [hc, if_true, if_false] <;> omega
      · exact h2 y hy
    · rcases h3 with h3 | h3
      · rw [h3]
        split
        · exact .inr List.mem_cons_self
        · exact .inl rfl
      · exact .inr (List.mem_cons_of_mem _ h3)
theorem maxI_of {ns : List Int} {m : Int} (hm : m ∈ ns) (h : ∀ y ∈ ns, y ≤ m) : maxI ns = m := by
  cases ns with
  | nil => cases hm
  | cons x xs =>
    obtain ⟨h1, h2, h3⟩ := maxI_go xs x
    show xs.foldl _ x = m
    have a : m ≤ xs.foldl (fun a b => if b > a then b else a) x := by
      rcases List.mem_cons.mp hm with rfl | hm
      · exact h1
      · exact h2 m hm
    have b : xs.foldl (fun a b => if b > a then b else a) x ≤ m := by
      rcases h3 with h3 | h3
      · rw [h3]; exact h x List.mem_cons_self
      · exact h _ (List.mem_cons_of_mem _ h3)
    omega
theorem minI_of {ns : List Int} {m : Int} (hm : m ∈ ns) (h : ∀ y ∈ ns, m ≤ y) : minI ns = m := by
  cases ns with
  | nil => cases hm
  | cons x xs =>
    obtain ⟨h1, h2, h3⟩ := minI_go xs x
    show xs.foldl _ x = m
    have a : xs.foldl (fun a b => if b < a then b else a) x ≤ m := by
      rcases List.mem_cons.mp hm with rfl | hm
      · exact h1
      · exact h2 m hm
    have b : m ≤ xs.foldl (fun a b => if b < a then b else a) x := by
      rcases h3 with h3 | h3
      · rw [h3]; exact h x List.mem_cons_self
      · exact h _ (List.mem_cons_of_mem _ h3)
    omega
abbrev rSum3 : C3 := rInts3 (fun _ => True) fun ns => .int ns.sum
abbrev rMaxL3 : C3 := rInts3 (fun ns => ns ≠ []) fun ns => .int (maxI ns)
abbrev rMinL3 : C3 := rInts3 (fun ns => ns ≠ []) fun ns => .int (minI ns)
section
variable {X : Cx}
theorem bls_inv {K : PySem.W.Frag} {w : W3} {H : Hp} {S : S3} {xs : List V} {ds : List D} {g : List Bool → PyData} {Q : K3} (r : Rel3 K w H S) (p0 : RepDs K w xs ds) (t : rBls3 g ds S Q) : ∃ a bs, xs = [.ref a] ∧ SqL K H a (bs.map V.bl) ∧ Q (.p (g bs)) S := by
  unfold rBls3 at t
  split at t
  · obtain ⟨v, rfl, p⟩ := rds1 p0
    split at t
    · rename_i es h1
      split at t
      · rename_i bs h2
        obtain ⟨a, ys, rfl, hq, ha, _⟩ := lst3_low r p h1
        rw [allP_bl h2] at ha
        rw [dp_bls ha] at hq
        exact ⟨a, bs, rfl, hq, t⟩
      · exact t.elim
    · exact t.elim
  · exact t.elim
theorem ints_inv {K : PySem.W.Frag} {w : W3} {H : Hp} {S : S3} {xs : List V} {ds : List D} {C : List Int → Prop} {g : List Int → PyData} {Q : K3} (r : Rel3 K w H S) (p0 : RepDs K w xs ds) (t : rInts3 C g ds S Q) : ∃ a ns, xs = [.ref a] ∧ SqL K H a (ns.map V.int) ∧ C ns ∧ Q (.p (g ns)) S := by
  unfold rInts3 at t
  split at t
  · obtain ⟨v, rfl, p⟩ := rds1 p0
    split at t
    · rename_i es h1
      split at t
      · rename_i bs h2
        obtain ⟨a, ys, rfl, hq, ha, _⟩ := lst3_low r p h1
        rw [allP_int h2] at ha
        rw [dp_ints ha] at hq
        exact ⟨a, bs, rfl, hq, t⟩
      · exact t.elim
    · exact t.elim
  · exact t.elim
theorem cq_all (hc : X.calm = true) : CQ X (.builtin "all") rAll3 := callq (cr_all hc) fun w S ds xs H Q R r0 p1 t q =>
  let ⟨a, bs, e, hq, t⟩ := bls_inv r0 p1 t
  ⟨a, bs, e, hq, q.bl r0 t⟩
theorem cq_any (hc : X.calm = true) : CQ X (.builtin "any") rAny3 := callq (cr_any hc) fun w S ds xs H Q R r0 p1 t q =>
  let ⟨a, bs, e, hq, t⟩ := bls_inv r0 p1 t
  ⟨a, bs, e, hq, q.bl r0 t⟩
theorem cq_sum (hc : X.calm = true) : CQ X (.builtin "sum") rSum3 := callq (cr_sum hc) fun w S ds xs H Q R r0 p1 t q =>
  let ⟨a, ns, e, hq, _, t⟩ := ints_inv r0 p1 t
  ⟨a, ns, e, hq, q.int r0 t⟩
theorem cq_maxL (hc : X.calm = true) : CQ X (.builtin "max") rMaxL3 := callq (cr_max hc) fun w S ds xs H Q R r0 p1 t q =>
  let ⟨a, ns, e, hq, hn, t⟩ := ints_inv r0 p1 t
  ⟨a, ns, e, hq, List.length_pos_iff.mpr hn, fun m h1 h2 => q.int r0 (maxI_of h1 h2 ▸ t)⟩
theorem cq_minL (hc : X.calm = true) : CQ X (.builtin "min") rMinL3 := callq (cr_min hc) fun w S ds xs H Q R r0 p1 t q =>
  let ⟨a, ns, e, hq, hn, t⟩ := ints_inv r0 p1 t
  ⟨a, ns, e, hq, List.length_pos_iff.mpr hn, fun m h1 h2 => q.int r0 (minI_of h1 h2 ▸ t)⟩
def rAbs3 : C3 := fun ds S Q => match ds with
  | [.p (.int i)] => Q (.p (.int (if i < 0 then -i else i))) S
  | _ => False
theorem cq_abs : CQ X (.builtin "abs") rAbs3 := callq call_abs fun w S ds xs H Q R r0 p1 t q => by
  unfold rAbs3 at t
  split at t
  · obtain ⟨v, rfl, p⟩ := rds1 p1
    have := dp_int p
    subst this
    exact ⟨_, rfl, q.int r0 t⟩
  · exact t.elim
end
end L3

namespace L3
open PySem PySem.Spec PyProof.Rows L2 RZ RT
/-! ### zip, enumerate, reversed -/
theorem zip3_get {xs ys : List PyData} {i : Nat} {x : PyData} (h : (zip3 xs ys)[i]? = some x) : ∃ a b, xs[i]? = some a ∧ ys[i]? = some b ∧ x = .tuple [a, b] := by
  unfold zip3 at h
  rw [List.getElem?_map] at h
  cases q : (xs.zip ys)[i]? with
  | none => rw [q] at h; cases h
  | some p =>
    rw [q] at h
    cases h
    rw [List.getElem?_zip_eq_some] at q
    exact ⟨p.1, p.2, q.1, q.2, rfl⟩
theorem zip3_len (xs ys : List PyData) : (zip3 xs ys).length = min xs.length ys.length := by
  unfold zip3
  rw [List.length_map, List.length_zip]
section
variable {K : PySem.W.Frag} {w : W3}
theorem pair_in {w' : W3} {H : Hp} {S : S3} {T : Addr} {v u : V} {x y : PyData} (r : Rel3 K w' H S) (hn : H T = none) (h1 : Dp K w'.h v x) (h2 : Dp K w'.h u y) :
    ∃ w'', Ex3 w' w'' ∧ Rel3 K w'' (upd H T (.tup [v, u])) S ∧ Dp K w''.h (.ref T) (.tuple [x, y]) := by
  obtain ⟨r2, e2⟩ := r.frz (u := .tup [v, u]) hn (by show (2 : Nat) ≤ _; rw [sizeLine_eq]; omega)
  exact ⟨_, e2, r2, Dp.tup (.inl (.inl upd_same)) (dpAll_mono e2.h [x, y] [v, u] (.cons h1 (.cons h2 .nil)))⟩
theorem itr_zipT {a b : Addr} {ds es : List PyData} (h : Dp K w.h (.ref a) (.tuple ds)) (h' : Dp K w.h (.ref b) (.tuple es)) : ItR K w (ItzT K a b) (zip3 ds es) fun _ => True := fun w' H S e r _ => by
  obtain ⟨a', xs, ea, hqa, ha⟩ := dp_tup_ref (dp_mono e.h _ _ h)
  obtain ⟨b', ys, eb, hqb, hb⟩ := dp_tup_ref (dp_mono e.h _ _ h')
  cases ea
  cases eb
  have hqa' := Same.sqT r.sub hqa
  have hqb' := Same.sqT r.sub hqb
  have la := DpAll.length ha
  have lb := DpAll.length hb
  refine ⟨fun i hi => ⟨xs, ys, hqa', hqb', by rw [zip3_len] at hi; omega⟩, fun i x hx => ?_⟩
  obtain ⟨x1, x2, g1, g2, rfl⟩ := zip3_get hx
  obtain ⟨v1, k1, k2⟩ := DpAll.get ha g1
  obtain ⟨v2, k3, k4⟩ := DpAll.get hb g2
  refine ⟨⟨xs, ys, v1, v2, hqa', hqb', k1, k3⟩, fun v H' y => ?_⟩
  obtain ⟨T, y1, y2, rfl, hn, rfl, z1, z2⟩ := y
  have := (z1 _ hqa').symm.trans k1
  cases this
  have := (z2 _ hqb').symm.trans k3
  cases this
  exact pair_in r hn k2 k4
theorem itr_zipL {a b : Addr} {d1 d2 : D} {ds es : List PyData} (h : RepD K w (.ref a) d1) (h' : RepD K w (.ref b) d2) : ItR K w (Itz K a b) (zip3 ds es) fun S => lst3 S d1 = some ds ∧ lst3 S d2 = some es := fun w' H S e r ok => by
  obtain ⟨a', xs, ea, hqa', ha, _⟩ := lst3_low r (h.mono0 e) ok.1
  obtain ⟨b', ys, eb, hqb', hb, _⟩ := lst3_low r (h'.mono0 e) ok.2
  cases ea
  cases eb
  have la := DpAll.length ha
  have lb := DpAll.length hb
  refine ⟨fun i hi => ⟨xs, ys, hqa', hqb', by rw [zip3_len] at hi; omega⟩, fun i x hx => ?_⟩
  obtain ⟨x1, x2, g1, g2, rfl⟩ := zip3_get hx
  obtain ⟨v1, k1, k2⟩ := DpAll.get ha g1
  obtain ⟨v2, k3, k4⟩ := DpAll.get hb g2
  refine ⟨⟨xs, ys, v1, v2, hqa', hqb', k1, k3⟩, fun v H' y => ?_⟩
  obtain ⟨T, y1, y2, rfl, hn, rfl, z1, z2⟩ := y
  have := (z1 _ hqa').symm.trans k1
  cases this
  have := (z2 _ hqb').symm.trans k3
  cases this
  exact pair_in r hn k2 k4
theorem enum3_get {xs : List PyData} {i : Nat} {x : PyData} (h : (enum3 xs)[i]? = some x) : ∃ a, xs[i]? = some a ∧ x = .tuple [.int (i : Nat), a] := by
  unfold enum3 at h
  rw [List.getElem?_map] at h
  rw [List.getElem?_zipIdx] at h
  cases q : xs[i]? with
  | none => rw [q] at h; simp at h
  | some a =>
    rw [q] at h
    simp at h
    exact ⟨a, rfl, h.symm⟩
theorem enum3_len (xs : List PyData) : (enum3 xs).length = xs.length := by
  unfold enum3
  rw [List.length_map, List.length_zipIdx]
theorem itr_enum {a : Addr} {d1 : D} {ds : List PyData} (h : RepD K w (.ref a) d1) : ItR K w (Ite K a) (enum3 ds) fun S => lst3 S d1 = some ds := fun w' H S e r ok => by
  obtain ⟨a', xs, ea, hqa', ha, _⟩ := lst3_low r (h.mono0 e) ok
  cases ea
  have la := DpAll.length ha
  refine ⟨fun i hi => ⟨xs, hqa', by rw [enum3_len] at hi; omega⟩, fun i x hx => ?_⟩
  obtain ⟨x1, g1, rfl⟩ := enum3_get hx
  obtain ⟨v1, k1, k2⟩ := DpAll.get ha g1
  refine ⟨⟨xs, v1, hqa', k1⟩, fun v H' y => ?_⟩
  obtain ⟨T, y1, rfl, hn, rfl, z1⟩ := y
  have := (z1 _ hqa').symm.trans k1
  cases this
  exact pair_in r hn (.int _) k2
theorem rev_get {α : Type} {xs : List α} {i : Nat} {x : α} (h : xs.reverse[i]? = some x) : i < xs.length ∧ xs[xs.length - 1 - i]? = some x := by
  have hi : i < xs.length := by
    have := (List.getElem?_eq_some_iff.mp h).1
    simpa using this
  rw [List.getElem?_reverse hi] at h
  exact ⟨hi, h⟩
theorem itr_revL {a : Addr} {d1 : D} {ds : List PyData} (h : RepD K w (.ref a) d1) : ItR K w (Itv K a ds.length) ds.reverse fun S => lst3 S d1 = some ds := fun w' H S e r ok => by
  obtain ⟨a', xs, ea, hqa', ha, _⟩ := lst3_low r (h.mono0 e) ok
  cases ea
  have la := DpAll.length ha
  refine ⟨fun i hi => by rw [List.length_reverse] at hi; exact hi, fun i x hx => ?_⟩
  obtain ⟨g0, g1⟩ := rev_get hx
  obtain ⟨v1, k1, k2⟩ := DpAll.get ha g1
  refine ⟨⟨g0, xs, v1, hqa', k1⟩, fun v H' y => ?_⟩
  obtain ⟨rfl, z1⟩ := y
  have := (z1 _ hqa').symm.trans k1
  cases this
  exact ⟨w', Ex3.refl _, r, k2⟩
theorem itr_revT {a : Addr} {ds : List PyData} (h : Dp K w.h (.ref a) (.tuple ds)) : ItR K w (ItvT K a ds.length) ds.reverse fun _ => True := fun w' H S e r _ => by
  obtain ⟨a', xs, ea, hqa, ha⟩ := dp_tup_ref (dp_mono e.h _ _ h)
  cases ea
  have hqa' := Same.sqT r.sub hqa
  have la := DpAll.length ha
  refine ⟨fun i hi => by rw [List.length_reverse] at hi; exact hi, fun i x hx => ?_⟩
  obtain ⟨g0, g1⟩ := rev_get hx
  obtain ⟨v1, k1, k2⟩ := DpAll.get ha g1
  refine ⟨⟨g0, xs, v1, hqa', k1⟩, fun v H' y => ?_⟩
  obtain ⟨rfl, z1⟩ := y
  have := (z1 _ hqa').symm.trans k1
  cases this
  exact ⟨w', Ex3.refl _, r, k2⟩
end
def tZipI3 (ta : TA3) : TI3 := fun env S Q => ta env S fun ds S1 => match ds with
  | [.p (.tuple xs), .p (.tuple ys)] => Q (zip3 xs ys) (fun _ => True) S1
  | [x, y] => (match lst3 S1 x, lst3 S1 y with
    | some xs, some ys => Q (zip3 xs ys) (fun S => lst3 S x = some xs ∧ lst3 S y = some ys) S1
    | _, _ => False)
  | _ => False
def tEnumerateI3 (ta : TA3) : TI3 := fun env S Q => ta env S fun ds S1 => match ds with
  | [x] => (match lst3 S1 x with
    | some xs => Q (enum3 xs) (fun S => lst3 S x = some xs) S1
    | _ => False)
  | _ => False
def tReversedI3 (te : TE3) : TI3 := fun env S Q => te env S fun x S1 => match x with
  | .p (.tuple xs) => Q xs.reverse (fun _ => True) S1
  | x => (match lst3 S1 x with
    | some xs => Q xs.reverse (fun S => lst3 S x = some xs) S1
    | _ => False)
section
variable {X : Cx} {e e2 : Expr} {te : TE3} {ta : TA3} {p pos tpos : Pos} {elts : List Expr} {kk : Nat} {tg : Expr}
theorem qi_zip (hc : X.calm = true) (hg : Gl X "zip") (hm : X.mg "zip" = none) (ha : QA X [e, e2] ta)
    (hs : starEach [e, e2] X.env = (false, eval e X.env) :: starEach [e2] X.env := by rfl) (hpl : (backTo pos (starEach [e2] X.env)).any (·.1) = false := by rfl) :
    QI X (.Tuple elts kk tpos) (.Call (.Name "zip" p) [e, e2] [] pos) (tZipI3 ta) := (pi_zipA hg hm ha hs hpl).imp fun σ H R ⟨w, env, S, Q, r0, en, t, q⟩ => by
  refine ⟨w, env, S, _, r0, en, t, fun w1 vs ds H1 S1 e1 r1 p1 t1 => ?_⟩
  split at t1
  · obtain ⟨v, u, rfl, p2, p3⟩ := rds2 p1
    obtain ⟨a, xs, rfl, hqa, ha⟩ := dp_tup_ref p2
    obtain ⟨b, ys, rfl, hqb, hb⟩ := dp_tup_ref p3
    have l1 := len_tup r1 p2
    exact ⟨a, b, xs, ys, rfl, .inr ⟨Same.sqT r1.sub hqa, Same.sqT r1.sub hqb, q w1 _ H1 S1 _ _ e1 r1 (itr_zipT p2 p3) (by rw [zip3_len]; omega) t1⟩⟩
  · obtain ⟨v, u, rfl, p2, p3⟩ := rds2 p1
    split at t1
    · rename_i xs' ys' h1 h2
      obtain ⟨a, xs, rfl, hqa, ha, hla⟩ := lst3_low r1 p2 h1
      obtain ⟨b, ys, rfl, hqb, hb, hlb⟩ := lst3_low r1 p3 h2
      exact ⟨a, b, xs, ys, rfl, .inl ⟨hqa, hqb, q w1 _ H1 S1 _ _ e1 r1 (itr_zipL p2 p3) (by rw [zip3_len]; omega) t1⟩⟩
    · exact t1.elim
  · exact t1.elim
theorem qi_enumerate (hc : X.calm = true) (hg : Gl X "enumerate") (hm : X.mg "enumerate" = none) (ha : QA X [e] ta) (hs : starEach [e] X.env = [(false, eval e X.env)] := by rfl) :
    QI X (.Tuple elts kk tpos) (.Call (.Name "enumerate" p) [e] [] pos) (tEnumerateI3 ta) := (pi_enum hg hm ha hs).imp fun σ H R ⟨w, env, S, Q, r0, en, t, q⟩ => by
  refine ⟨w, env, S, _, r0, en, t, fun w1 vs ds H1 S1 e1 r1 p1 t1 => ?_⟩
  split at t1
  · obtain ⟨v, rfl, p2⟩ := rds1 p1
    split at t1
    · rename_i xs' h1
      obtain ⟨a, xs, rfl, hqa, ha, hla⟩ := lst3_low r1 p2 h1
      exact ⟨a, xs, rfl, hqa, q w1 _ H1 S1 _ _ e1 r1 (itr_enum p2) (by rw [enum3_len]; exact hla) t1⟩
    · exact t1.elim
  · exact t1.elim
theorem qi_reversed (hc : X.calm = true) (hg : Gl X "reversed") (hm : X.mg "reversed" = none) (he : QE X e te) (hs : starEach [e] X.env = (false, eval e X.env) :: starEach [] X.env := by rfl) :
    QI X tg (.Call (.Name "reversed" p) [e] [] pos) (tReversedI3 te) := (pi_revA hg hm he hs).imp fun σ H R ⟨w, env, S, Q, r0, en, t, q⟩ => by
  refine ⟨w, env, S, _, r0, en, t, fun w1 v d H1 S1 e1 r1 p1 t1 => ?_⟩
  split at t1
  · obtain ⟨a, xs, rfl, hqa, ha⟩ := dp_tup_ref p1
    have hl := DpAll.length ha
    refine ⟨a, xs, rfl, .inr ⟨Same.sqT r1.sub hqa, ?_⟩⟩
    rw [hl]
    exact q w1 _ H1 S1 _ _ e1 r1 (itr_revT p1) (by rw [List.length_reverse]; exact len_tup r1 p1) t1
  · split at t1
    · rename_i xs' h1
      obtain ⟨a, xs, rfl, hqa, ha, hla⟩ := lst3_low r1 p1 h1
      have hl := DpAll.length ha
      refine ⟨a, xs, rfl, .inl ⟨hqa, ?_⟩⟩
      rw [hl]
      exact q w1 _ H1 S1 _ _ e1 r1 (itr_revL p1) (by rw [List.length_reverse]; exact hla) t1
    · exact t1.elim
/-! ### tuple(reversed(xs)), list(x) -/
def tTupRev3 (te : TE3) : TE3 := fun env S Q => te env S fun x S1 => match lst3 S1 x with
  | some ds => Q (.p (.tuple ds.reverse)) S1
  | none => False
theorem qe_tupRev {p2 pos2 : Pos} (hc : X.calm = true) (hg : Gl X "tuple") (hm : X.mg "tuple" = none) (hg2 : Gl X "reversed") (hm2 : X.mg "reversed" = none) (he : QE X e te)
    (hs : starEach [e] X.env = (false, eval e X.env) :: starEach [] X.env := by rfl)
    (hs2 : starEach [.Call (.Name "reversed" p2) [e] [] pos2] X.env = (false, eval (.Call (.Name "reversed" p2) [e] [] pos2) X.env) :: starEach [] X.env := by rfl) :
    QE X (.Call (.Name "tuple" p) [.Call (.Name "reversed" p2) [e] [] pos2] [] pos) (tTupRev3 te) := (pe_tupRev hc hg hm hg2 hm2 he hs hs2).imp fun σ H R ⟨w, env, S, Q, r0, en, t, q⟩ => by
  refine ⟨w, env, S, _, r0, en, t, fun w1 v d H1 S1 e1 r1 p1 t1 => ?_⟩
  split at t1
  · rename_i ds h1
    obtain ⟨a, xs, rfl, hq, ha, hz⟩ := lst3_low r1 p1 h1
    exact ⟨a, xs, rfl, hq, (q.mono e1).tup r1 (DpAll.reverse ha) (by rw [List.length_reverse]; exact hz) t1⟩
  · exact t1.elim
def tLstOf3 (ta : TA3) : TN3 := fun env S Q => ta env S fun ds S1 => match ds with
  | [d] => (match seq3 S1 d with
    | some es => Q es S1
    | none => False)
  | _ => False
theorem qn_listOf (hg : Gl X "list") (hm : X.mg "list" = none) (ha : QA X [e] ta) (he : starEach [e] X.env = (false, eval e X.env) :: starEach [] X.env := by rfl) (hpl : (backTo pos (starEach [] X.env)).any (·.1) = false := by rfl) :
    QN X (.Call (.Name "list" p) [e] [] pos) (tLstOf3 ta) := L2.PE.imp (pe_callTy call_list_of hg hm (by decide +kernel) ha (by decide) (by decide) he hpl) fun σ H R ⟨w, env, S, Q, r0, en, t, q⟩ => by
  refine ⟨w, env, S, _, r0, en, t, fun w1 vs ds H1 S1 e1 r1 p1 t1 => ?_⟩
  split at t1
  · obtain ⟨v, rfl, p2⟩ := rds1 p1
    split at t1
    · rename_i es h1
      obtain ⟨a, xs, rfl, hq, ha, hz⟩ := seq3_low r1 p2 h1
      exact ⟨a, xs, rfl, hq, fun l hn => q w1 l xs _ H1 S1 e1 r1 hn ha hz t1⟩
    · exact t1.elim
  · exact t1.elim
end
/-! ### repr of data: in a stack that shows nothing yet -/
def ReprOk (d : PyData) : Prop := d.showable = true ∧ d.shown.length ≤ 16777216 ∧ d.depth ≤ 60 ∧ d.hasDict = false
def rReprD3 : C3 := fun ds S Q => match ds with
  | [.p d] => ReprOk d ∧ Q (.p (.str d.shown)) S
  | _ => False
section
variable {X : Cx}
def rShow (K : PySem.W.Frag) : List V → Hp → VK → Prop := fun xs H Q => ∃ (v : V) (d : PyData), xs = [v] ∧ Dp K H v d ∧ ReprOk d ∧ Q (.str d.shown) H
theorem call_reprD (hg : X.A.guards = some []) (hu : X.A.units + 64 < cLine) : CallR X (.builtin "repr") (rShow X.K) := by
  intro pins s σ H xs us Q I r h
  obtain ⟨v, d, rfl, hd, ⟨h1, h2, h3, h4⟩, q⟩ := h
  have hz : sizeLine = 16777216 := sizeLine_eq
  obtain ⟨u, rfl, r1⟩ := vals1 r
  obtain ⟨as, rd⟩ := Dp.reads I d v u hd r1
  have nod : d.hasDict = true → sysModules ∉ as := PyData.noDict_hsm h4
  cases d with
  | none =>
    cases hd
    cases r1
    simp only [PyData.shown] at q
    exact PySem.P.repr_of_none ⟨.str _, H, I.tok _, ⟨_, rfl⟩, q⟩
  | bool b =>
    cases hd
    cases r1
    simp only [PyData.shown] at q
    exact PySem.P.repr_of_bool ⟨.str _, H, I.tok _, ⟨_, rfl⟩, q⟩
  | int i =>
    cases hd
    obtain ⟨t, rfl⟩ := r1
    simp only [PyData.shown] at q
    have h1' : i.natAbs.log2 < 1920 := by
      simp only [PyData.showable] at h1
      exact of_decide_eq_true h1
    exact PySem.P.repr_of_int h1' ⟨.str _, H, I.tok _, ⟨_, rfl⟩, q⟩
  | str x =>
    cases hd
    obtain ⟨t, rfl⟩ := r1
    simp only [PyData.shown] at q h2
    exact PySem.P.repr_of_str ⟨.str _, H, I.tok _, ⟨_, rfl⟩, q⟩ (by omega)
  | list ds =>
    cases hd with
    | lst hs ha =>
      cases r1
      refine repr_of_reads' rd h1 nod hg (by omega) (fun b o e => e) (fun h' u tk hk => ?_) (by omega)
      exact ⟨.str _, H, I.kept (t' := tk) hk, ⟨_, rfl⟩, q⟩
  | tuple ds =>
    cases hd with
    | tup hs ha =>
      cases r1
      refine repr_of_reads' rd h1 nod hg (by omega) (fun b o e => e) (fun h' u tk hk => ?_) (by omega)
      exact ⟨.str _, H, I.kept (t' := tk) hk, ⟨_, rfl⟩, q⟩
  | dict kvs => simp [PyData.hasDict] at h4
theorem cq_reprD (hg : X.A.guards = some []) (hu : X.A.units + 64 < cLine) : CQ X (.builtin "repr") rReprD3 := callq (call_reprD hg hu) fun w S ds xs H Q R r0 p1 t q => by
  unfold rReprD3 at t
  split at t
  · obtain ⟨v, rfl, p⟩ := rds1 p1
    exact ⟨v, _, rfl, dp_mono r0.sub _ _ p, t.1, q.str r0 t.2⟩
  · exact t.elim
end
/-! ### defs whose promise holds in a stack that shows nothing -/
structure FnG (P : Program) (w : World) (K : PySem.W.Frag) (mg : Str → Option Value) (base : Heap) (k : Nat) (f : Addr) (fd : FuncData) (ps : List Str) (sp : L2.Sp) : Prop where
  len : ∀ vs H Q E, sp vs H Q E → vs.length = ps.length
  run : ∀ (A : Around) (outer : List Env) (s : Shared) (H : Hp) (args : Args) (us : List Value) (vs : List V) (Q : VK) (E : XK), A.guards = some [] → Room k A → Env0 P w K mg base A outer s H → BindsTo s fd args (ps.zip us) → Vals vs us → sp vs H Q E →
    codeAny (model P w) A (.call (.ref f) args) (CR CX0 outer P w H s Q E) s
section
variable {P : Program} {w : World} {K : PySem.W.Frag} {mg : Str → Option Value} {base : Heap}
theorem fnG_of {x qual : Str} {st : Stmt} {f : Addr} {fd : FuncData} {N ps : List Str} {k : Nat} {sp : L2.Sp} (F : Fun K x qual st f fd) (S : FnScope N ps (defScope st)) (len : ∀ vs H Q E, sp vs H Q E → vs.length = ps.length)
    (hbody : ∀ (cdv : Value) (A : Around) (outer : List Env) (s : Shared) (H : Hp) (vs : List V) (Q : VK) (E : XK), A.guards = some [] → Room k (A.deeper (envOfC qual (defScope st) s.heap.objs.size f cdv)) → sp vs H Q E →
      ∃ t, PSs (cxOf CX0 P w K mg base N qual (defScope st) f cdv A outer s H E).nox (defBody st) t ∧ t { nx := fun _ H' => Q .non H', rt := Q } (L2.start N vs) H) : FnG P w K mg base (k + 1) f fd ps sp := by
  obtain ⟨oc, od, kV, doc, pm, an, cdv, ct, osl, rfl, lk, hcd⟩ := F.ex
  refine ⟨len, fun A outer s H args us vs Q E hgd hr e0 hb r hsp => ?_⟩
  have old : ∀ b o, base.get? b = some o → s.heap.get? b = some o := fun b o e => (e0.bs b o e).1
  have KX : K.In s.heap := e0.mod.kin.keeps old
  have hkind : ∀ y ∈ ps.zip us, (defScope st).names.lookup y.1 = some .local ∨ ((defScope st).names.lookup y.1 = some .cell ∧ ((cellsFrom (s.heap.objs.size + 1) (defScope st).names []).lookup y.1).isSome = true) := fun y hy =>
    (S.par y.1 (List.of_mem_zip (a := y.1) (b := y.2) hy).1).imp id fun q => ⟨q, PySem.W.cellsFrom_some _ _ _ (.inl q)⟩
  refine codeAny_call_function hr.depth (KX _ _ lk) rfl S.co S.gen rfl (PySem.W.codeRec_of KX hcd) (hb _ _ _ _ (wpAny_newFunctionEnv_cells S.kind hkind fun env he s1 x => ?_))
  subst he
  refine ⟨(e0.mod.nolimit.keeps old).keeps x.toInCall.keep, codeAny_func ?_⟩
  obtain ⟨t, ht, hq⟩ := hbody cdv A outer s H vs Q E hgd (hr.deeper _) hsp
  refine wpAny_mono (ht.nox.run [] s1 (L2.start N vs) H _ (inv_start S hr.hd e0 (len _ _ _ _ hsp) r x) hq) (fun fl s' hs => ?_) fun e s' hs => hs
  cases fl with
  | ret u =>
    obtain ⟨v, σ', H', J, rv, q⟩ := hs
    exact ⟨v, H', J.os, J.bare, J.base, J.hok, rv, q⟩
  | next =>
    obtain ⟨σ', H', J, q⟩ := hs
    exact ⟨.non, H', J.os, J.bare, J.base, J.hok, rfl, q⟩
  | brk =>
    obtain ⟨_, _, _, q⟩ := hs
    exact False.elim q
  | cont =>
    obtain ⟨_, _, _, q⟩ := hs
    exact False.elim q
end
structure Ok3G (P : Program) (w : World) (K : PySem.W.Frag) (mg : Str → Option Value) (base : Heap) (k : Nat) (x : Str) (sp : Sp3) : Prop where
  ex : ∃ f fd ps, mg x = some (.ref f) ∧ PySem.W.keepIn K (.ref f) = true ∧ Binds K fd ps [] ∧ FnG P w K mg base k f fd ps (fun vs H Q _ => lowC K sp vs H Q)
section
variable {P : Program} {w : World} {K : PySem.W.Frag} {mg : Str → Option Value} {base : Heap}
theorem Ok3G.fnG {x : Str} {st : Stmt} {f : Addr} {fd : FuncData} {N ps : List Str} {k : Nat} {sp : Sp3} {t3 : TS3} (F : Fun K x x st f fd) (b : Binds K fd ps []) (sc : FnScope N ps (defScope st))
    (hlen : ∀ ds S Q, sp ds S Q → ds.length = ps.length)
    (body : ∀ (cdv : Value) (A : Around) (outer : List Env) (s : Shared) (H : Hp) (E : XK), A.guards = some [] → Room k (A.deeper (envOfC x (defScope st) s.heap.objs.size f cdv)) → QSs (cxOf CX0 P w K mg base N x (defScope st) f cdv A outer s H E).nox (defBody st) t3)
    (read : ∀ ds S Q, sp ds S Q → t3 { nx := fun _ S' => Fin3 S Q (.p .none) S', rt := Fin3 S Q } (env0 N.length ds) S) : FnG P w K mg base (k + 1) f fd ps (fun vs H Q _ => lowC K sp vs H Q) := by
  refine fnG_of F sc (fun vs H Q E h => ?_) (fun cdv A outer s H vs Q E hgd hr h => ?_)
  · obtain ⟨w3, S, ds, Q3, r, rd, hs, q⟩ := h
    rw [RepDs.length rd]
    exact hlen ds S Q3 hs
  · obtain ⟨w3, S, ds, Q3, r, rd, hs, q⟩ := h
    refine ⟨_, body cdv A outer s H E hgd hr, ?_⟩
    have fin : ∀ (w4 : W3) (v : V) (d : D) (H' : Hp) (S' : S3), Ex3 w3 w4 → Rel3 K w4 H' S' → RepD K w4 v d → Fin3 S Q3 d S' → Q v H' := fun w4 v d H' S' e4 r4 p4 ⟨L, hL, hb, h4⟩ => by
      refine q ⟨w4.al.take L, w4.h, w4.pn⟩ v d H' (S'.take L) ⟨⟨?_, e4.h⟩, e4.pn⟩ (r4.shrink L) ?_ h4
      · obtain ⟨t, ht⟩ := e4.al
        refine ⟨t.take (L - w3.al.length), ?_⟩
        show w4.al.take L = _
        rw [ht, List.take_append, List.take_of_length_le (by rw [r.len]; exact hL)]
      · cases d with
        | p d => exact p4
        | exc c => exact p4
        | loc m =>
          obtain ⟨a, h5, h6⟩ := p4
          exact ⟨a, by show (w4.al.take L)[m]? = _; rw [List.getElem?_take_of_lt hb]; exact h5, h6⟩
    exact ⟨w3, _, S, _, r, env_start rd, read ds S Q3 hs, ⟨fun w4 σ' H' env' S' e4 r4 _ h4 => fin w4 .non (.p .none) H' S' e4 r4 rep_non h4, fun w4 v d H' S' e4 r4 p4 h4 => fin w4 v d H' S' e4 r4 p4 h4,
      fun _ _ _ _ _ _ _ _ h => h.elim, fun _ _ _ _ _ _ _ _ h => h.elim⟩⟩
theorem Ok3G.mk' {x : Str} {st : Stmt} {f : Addr} {fd : FuncData} {N ps : List Str} {k : Nat} {sp : Sp3} {t3 : TS3} (F : Fun K x x st f fd) (hm : mg x = some (.ref f)) (b : Binds K fd ps []) (sc : FnScope N ps (defScope st))
    (hlen : ∀ ds S Q, sp ds S Q → ds.length = ps.length)
    (body : ∀ (cdv : Value) (A : Around) (outer : List Env) (s : Shared) (H : Hp) (E : XK), A.guards = some [] → Room k (A.deeper (envOfC x (defScope st) s.heap.objs.size f cdv)) → QSs (cxOf CX0 P w K mg base N x (defScope st) f cdv A outer s H E).nox (defBody st) t3)
    (read : ∀ ds S Q, sp ds S Q → t3 { nx := fun _ S' => Fin3 S Q (.p .none) S', rt := Fin3 S Q } (env0 N.length ds) S) : Ok3G P w K mg base (k + 1) x sp :=
  ⟨f, fd, ps, hm, F.kp, b, Ok3G.fnG F b sc hlen body read⟩
end
section
variable {X : Cx} {e : Expr} {es : List Expr} {tr : TA3} {p pos : Pos} {x : Str} {k : Nat} {sp : Sp3}
theorem run_fnG {f : Addr} {fd : FuncData} {ps : List Str} {sp : L2.Sp} {E : XK} {pins : List (Addr × Obj)} {σ : L2.St} {H : Hp} {s : Shared} {Q : VK} {us : List Value} {vs : List V} (F : FnG X.prog X.w X.K X.mg X.base k f fd ps sp) (hg : X.A.guards = some []) (hr : Room k X.A) (hb : Binds X.K fd ps [])
    (I : L2.Inv X pins σ H s) (r : Vals vs us) (h : sp vs H Q E) : wpAny (model X.prog X.w) X.A (call (.ref f) us) (EP X pins σ Q) X.xe s := by
  have hl : us.length = ps.length := by rw [← r.length]; exact F.len _ _ _ _ h
  have b := hb s us I.kIn (by rw [List.append_nil]; exact hl)
  rw [List.append_nil] at b
  refine wpAny_call (codeAny_mono (F.run X.A X.stack s H ⟨us, []⟩ us vs Q E hg hr I.env0 b r h) fun r s' hq => ?_)
  cases r with
  | error e => exact hq.elim
  | ok fl =>
    cases fl with
    | ret u => exact I.after hq
    | next => exact False.elim hq
    | brk => exact False.elim hq
    | cont => exact False.elim hq
theorem qe_callG (F : Ok3G X.prog X.w X.K X.mg X.base k x sp) (hgd : X.A.guards = some []) (hr : Room k X.A) (hg : Gl X x) (ha : QA X (e :: es) tr) (hdb : (x == ("__debug__" : Str)) = false := by decide) (he : starEach (e :: es) X.env = (false, eval e X.env) :: starEach es X.env := by rfl) (hpl : (backTo pos (starEach es X.env)).any (·.1) = false := by rfl) :
    QE X (.Call (.Name x p) (e :: es) [] pos) (tCB3 sp tr) := by
  obtain ⟨f, fd, ps, hm, kp, b, ok⟩ := F.ex
  refine ⟨fun pins s σ H Q I h => ?_⟩
  refine wpAny_Call_Name_kw (ld_glob I hg hm ?_ hdb)
  refine PySem.W.callWith_K (h₀ := X.base) I.ok.mod.kin kp (thn (ha.run pos pins s σ H (fun vs H1 => lowC X.K sp vs H1 Q) I (lowCB h)) fun us s1 ⟨vs, H1, I1, r, q⟩ => ⟨I1.kIn, ?_⟩) he hpl
  exact run_fnG (E := fun _ _ _ => False) ok hgd hr b I1 r q
end
/-! ### the law's head, in a stack that shows nothing (callerA's) -/
theorem call_headG {P : Program} {w : World} {K : PySem.W.Frag} {mg mb : Str → Option Value} {k : Nat} {fa a : Addr} {fd : FuncData} {x : Str} {sp : L2.Sp} {s₁ : Shared} {vs : List Value} {ns : List Int}
    (KX : K.In s₁.heap) (hns : s₁.heap.Ns mainGlobals mg) (hb : s₁.heap.Ns builtinsNs mb) (hbb : ∀ x : Str, x ≠ "__name__" → mb x = bootBuiltins x) (hlim : s₁.heap.NoLimit) (hg : s₁.gens = #[])
    (ha : s₁.heap.get? a = some { cls := .type "list", data := .seq vs.toArray }) (hi : IntsAre vs ns) (hl : ns.length ≤ sizeLine) (hr : Room k callerA)
    (F : ∀ base : Heap, K.In base → base.Ns mainGlobals mg → FnG P w K mg base k fa fd [x] sp) (hbind : ∀ (s : Shared) (u : Value), BindsTo s fd ⟨[u], []⟩ [(x, u)])
    (hsp : ∀ H : Hp, Only H → SqL K H a (ns.map V.int) → sp [.ref a] H (fun v _ => v = .bl true) fun _ _ _ => False) :
    codeAny (model P w) callerA (.call (.ref fa) ⟨[.ref a], []⟩) (fun r s' => r = .ok (.ret (.bool true)) ∧ OldK s₁.heap s'.heap ∧ s'.os = s₁.os ∧ AllBare s'.gens) s₁ := by
  have rv := vals_ints hi
  have lenV := hi.length
  have go : ∀ H : Hp, Only H → SqL K H a (ns.map V.int) → HOk P w H s₁.heap → (∀ b, H b ≠ none → b = a) → (H a ≠ none → K.lookup a = none) →
      codeAny (model P w) callerA (.call (.ref fa) ⟨[.ref a], []⟩) (fun r s' => r = .ok (.ret (.bool true)) ∧ OldK s₁.heap s'.heap ∧ s'.os = s₁.os ∧ AllBare s'.gens) s₁ := fun H hO hS hok hA hK => by
    have free : ∀ {b : Addr}, (b = a → False) → H b = none := fun {b} n => by
      cases q : H b with
      | none => rfl
      | some u => exact (n (hA b (by rw [q]; simp))).elim
    have nsK : ∀ {b : Addr} {m : Str → Option Value}, s₁.heap.Ns b m → (hidT s₁.heap H).Ns b m := fun {b m} ⟨o, es, ep, e, d, r⟩ => ⟨o, es, ep, hidT_get e (free fun z => by
      subst z
      rw [ha] at e
      cases e
      cases (show Data.seq vs.toArray _ = Data.dict es ep from d)), d, r⟩
    have hKb : K.In (hidT s₁.heap H) := fun b o e => hidT_get (KX b o e) (by
      cases q : H b with
      | none => rfl
      | some u =>
        have z := hA b (by rw [q]; simp)
        subst z
        rw [hK (by rw [q]; simp)] at e
        cases e)
    have hM : Mod K mg (hidT s₁.heap H) := ⟨hKb, nsK hns, ⟨mb, nsK hb, hbb⟩, let ⟨mc, h1, h2⟩ := hlim; ⟨mc, nsK h1, h2⟩⟩
    have e0 : Env0 P w K mg (hidT s₁.heap H) callerA [] s₁ H := ⟨rfl, hM, fun b o e => of_hidT e, Nat.le_of_eq (hidT_size _ _), trivial, fun b hb => absurd (show b ∈ ([] : List Addr) from hb) (by simp), hok, .of_eq hg⟩
    refine codeAny_mono ((F _ hKb (nsK hns)).run callerA [] s₁ H ⟨[.ref a], []⟩ [.ref a] [.ref a] _ _ rfl hr e0 (hbind s₁ (.ref a)) (.cons rfl .nil) (hsp H hO hS)) fun r s' h => ?_
    cases r with
    | error e => exact h.elim
    | ok fl =>
      cases fl with
      | next => exact False.elim h
      | brk => exact False.elim h
      | cont => exact False.elim h
      | ret u =>
        obtain ⟨v, H', os, bare, un, hok', r', q⟩ := h
        subst q
        cases r'
        refine ⟨rfl, OldK.of_keep fun b o e => ?_, os, bare⟩
        cases q : H b with
        | none => exact un.keep b o e q (by intro z; exact absurd (show b ∈ ([] : List Addr) from z) (by simp)) (by simp)
        | some u =>
          rcases hO b with z | ⟨ob, xs, z⟩
          · rw [q] at z; cases z
          · obtain ⟨e1, _⟩ := hok b _ z
            obtain ⟨e2, _⟩ := hok' b _ (un.frzs b ob _ z)
            rw [e] at e1
            cases e1
            exact e2
  cases hk : K.lookup a with
  | some o =>
    have e := KX a o hk
    rw [ha] at e
    cases e
    exact go (fun _ => none) (fun _ => .inl rfl) (.inr ⟨_, vs.toArray, _, hk, rfl, rfl, rfl, by rw [List.size_toArray, lenV]; exact hl, by simpa using rv⟩) (fun b u z => nomatch z) (fun b z => absurd rfl z) fun z => absurd rfl z
  | none =>
    refine go (upd (fun _ => none) a (.frz { cls := .type "list", data := .seq vs.toArray } (.lst (ns.map V.int)))) (fun b => ?_) (.inl (.inr ⟨{ cls := .type "list", data := .seq vs.toArray }, upd_same⟩)) (fun b u z => ?_) (fun b z => ?_) fun _ => hk
    · by_cases hb : b = a
      · subst hb
        exact .inr ⟨_, _, upd_same⟩
      · exact .inl (upd_ne hb)
    · by_cases hb : b = a
      · subst hb
        rw [upd_same] at z
        cases z
        exact ⟨ha, by rw [List.length_map]; exact hl, vs, _, rv, ha⟩
      · rw [upd_ne hb] at z
        cases z
    · by_cases hb : b = a
      · exact hb
      · exact absurd (upd_ne hb) z
theorem walk_ofG {l : PySem.W.OpenLaw} {n k : Nat} {q : Program} {loose : List Str} {XP : (Str → Option Value) → Heap → Prop} {YP : World → Heap → Prop} {d : DefRec} {K : Params → PySem.W.Frag} {sp : World → L2.Sp} {x : Str}
    (hn : l.most = some n) (hn2 : n ≤ sizeLine) (hdf : d.params.defaults = []) (hr : Room k callerA)
    (hY : ∀ (w : World) (h : Heap), YP w h → (K w.params).In h)
    (F : ∀ (w : World) (mg : Str → Option Value) (fa : Addr) (h : Heap), (K w.params).In h → h.Ns mainGlobals mg → mg d.name = some (.ref fa) →
      ∃ fd : FuncData, (∀ (s : Shared) (u : Value), BindsTo s fd ⟨[u], []⟩ [(x, u)]) ∧
        ∀ base : Heap, (K w.params).In base → base.Ns mainGlobals mg → FnG l.prog w (K w.params) mg base k fa fd [x] (sp w))
    (hsp : ∀ (w : World) (H : Hp) (a : Addr) (ns : List Int), ns.length ≤ n → Only H → SqL (K w.params) H a (ns.map V.int) → sp w [.ref a] H (fun v _ => v = .bl true) fun _ _ _ => False) :
    PySem.W.WalkO q loose XP YP l.row.toRowW d [] (fun f vs => PySem.call f vs) := by
  refine Att.attach_call hn hdf fun w s₀ s₁ mg mb fa o pm cd doc a vs ns G Y ho hd hcd hmg hobj hints hlen hg => ?_
  obtain ⟨fd, hb, hF⟩ := F w mg fa _ (hY w _ Y) G.T.g hmg
  exact call_headG (hY w _ Y) G.T.g G.T.b G.T.builtins G.T.nolimit hg hobj hints (Nat.le_trans hlen hn2) hr hF hb fun H hO hS => hsp w H a ns hlen hO hS
end L3

namespace L3
open PySem PySem.Spec PyProof.Rows L2
/-! ### == with texts -/
def rEqS3 : R3 := fun x y S Q => match x, y with
  | .p (.str a), .p (.str b) => Q (.p (.bool (decide (a = b)))) S
  | .p d, .p e => (SeqAt.shaped d = true ∧ SeqAt.shaped e = true) ∧ Q (.p (.bool (PyData.eqv d e))) S
  | _, _ => False
def rNeS3 : R3 := fun x y S Q => match x, y with
  | .p (.str a), .p (.str b) => Q (.p (.bool (!decide (a = b)))) S
  | .p d, .p e => (SeqAt.shaped d = true ∧ SeqAt.shaped e = true) ∧ Q (.p (.bool (!PyData.eqv d e))) S
  | _, _ => False
theorem dec_str {a b : Str} : decide (V.str a = V.str b) = decide (a = b) := by
  rw [Bool.eq_iff_iff]
  simp
theorem oq_eqS {X : Cx} (hu : X.A.units + 64 < cLine) : OQ X (compareOp .Eq) rEqS3 := opq (op_eq.or (op_eqD hu)) fun w S d e x y H Q R r0 p1 p2 t q => by
  unfold rEqS3 at t
  split at t
  · have := dp_str p1
    subst this
    have := dp_str p2
    subst this
    refine .inl ⟨rfl, ?_⟩
    rw [dec_str]
    exact q.bl r0 t
  · exact .inr ⟨_, _, (dp_mono r0.sub _ _ p1).sh t.1.1, (dp_mono r0.sub _ _ p2).sh t.1.2, t.1.1, t.1.2, q.bl r0 t.2⟩
  · exact t.elim
theorem oq_neS {X : Cx} (hu : X.A.units + 64 < cLine) : OQ X (compareOp .NotEq) rNeS3 := opq (op_ne.or (op_neD hu)) fun w S d e x y H Q R r0 p1 p2 t q => by
  unfold rNeS3 at t
  split at t
  · have := dp_str p1
    subst this
    have := dp_str p2
    subst this
    refine .inl ⟨rfl, ?_⟩
    rw [dec_str]
    exact q.bl r0 t
  · exact .inr ⟨_, _, (dp_mono r0.sub _ _ p1).sh t.1.1, (dp_mono r0.sub _ _ p2).sh t.1.2, t.1.1, t.1.2, q.bl r0 t.2⟩
  · exact t.elim
/-! ### data that can be shown and told apart -/
structure Shows (d : PyData) (B k : Nat) : Prop where
  ok : d.showable = true
  len : d.shown.length ≤ B
  dep : d.depth ≤ k
  lay : d.canLay0 = true
theorem Shows.le {d : PyData} {B B' k k' : Nat} (h : Shows d B k) (hb : B ≤ B') (hk : k ≤ k') : Shows d B' k' := ⟨h.ok, Nat.le_trans h.len hb, Nat.le_trans h.dep hk, h.lay⟩
theorem Shows.repr {d : PyData} {B k : Nat} (h : Shows d B k) (hb : B ≤ 16777216) (hk : k ≤ 60) : ReprOk d := ⟨h.ok, Nat.le_trans h.len hb, Nat.le_trans h.dep hk, PyData.hasDict_of_canLay _ h.lay⟩
theorem Shows.shaped {d : PyData} {B k : Nat} (h : Shows d B k) (hk : k ≤ 64) : SeqAt.shaped d = true := by
  unfold SeqAt.shaped
  rw [h.lay, decide_eq_true (Nat.le_trans h.dep hk)]
  rfl
theorem Shows.int {i : Int} (h : i.natAbs < 10 ^ 12) : Shows (.int i) 13 0 := by
  refine ⟨?_, PyData.shown_int_le h, Nat.le_refl _, rfl⟩
  simp only [PyData.showable]
  refine decide_eq_true ?_
  have := PySem.Flt.log2_lt_of (show 0 < 64 by decide) (show i.natAbs < 2 ^ 64 by omega)
  omega
theorem shows_all {B k : Nat} : ∀ {ds : List PyData}, (∀ x ∈ ds, Shows x B k) → PyData.showableAll ds = true ∧ ((PyData.shownAll ds).map (·.length)).sum ≤ ds.length * B ∧ (PyData.shownAll ds).length = ds.length ∧ PyData.depthAll ds ≤ k ∧ PyData.canLayAll0 ds = true
  | [], _ => by simp [PyData.showableAll, PyData.shownAll, PyData.depthAll, PyData.canLayAll0]
  | d :: ds, h => by
    obtain ⟨h1, h2, h3, h4, h5⟩ := shows_all (ds := ds) fun x hx => h x (List.mem_cons_of_mem _ hx)
    have h0 := h d List.mem_cons_self
    refine ⟨?_, ?_, ?_, ?_, ?_⟩
    · simp only [PyData.showableAll, h0.ok, h1, Bool.and_self]
    · simp only [PyData.shownAll, List.map_cons, List.sum_cons, List.length_cons]
      have := h0.len
      rw [Nat.add_mul]
      omega
    · simp only [PyData.shownAll, List.length_cons, h3]
    · simp only [PyData.depthAll]
      exact Nat.max_le.mpr ⟨h0.dep, h4⟩
    · simp only [PyData.canLayAll0, h0.lay, h5, Bool.and_self]
theorem Shows.tup {ds : List PyData} {B k n : Nat} (h : ∀ x ∈ ds, Shows x B k) (hn : ds.length ≤ n) : Shows (.tuple ds) (n * (B + 2) + 3) (k + 1) := by
  obtain ⟨h1, h2, h3, h4, h5⟩ := shows_all h
  refine ⟨?_, ?_, ?_, ?_⟩
  · simp only [PyData.showable]; exact h1
  · simp only [PyData.shown]
    refine Nat.le_trans (tupleText_len_le _) ?_
    rw [h3]
    have : ds.length * B ≤ n * B := Nat.mul_le_mul_right _ hn
    have e : n * (B + 2) = n * B + n * 2 := Nat.mul_add ..
    omega
  · simp only [PyData.depth]; omega
  · simp only [PyData.canLay0]; exact h5
theorem Shows.lst {ds : List PyData} {B k n : Nat} (h : ∀ x ∈ ds, Shows x B k) (hn : ds.length ≤ n) : Shows (.list ds) (n * (B + 2) + 3) (k + 1) := by
  obtain ⟨h1, h2, h3, h4, h5⟩ := shows_all h
  refine ⟨?_, ?_, ?_, ?_⟩
  · simp only [PyData.showable]; exact h1
  · simp only [PyData.shown]
    refine Nat.le_trans (listText_len_le _) ?_
    rw [h3]
    have : ds.length * B ≤ n * B := Nat.mul_le_mul_right _ hn
    have e : n * (B + 2) = n * B + n * 2 := Nat.mul_add ..
    omega
  · simp only [PyData.depth]; omega
  · simp only [PyData.canLay0]; exact h5
/-- a tuple of ints -/
def tupI (ns : List Int) : PyData := .tuple (ns.map PyData.int)
theorem shows_tupI {ns : List Int} {n : Nat} (h : ∀ x ∈ ns, x.natAbs < 10 ^ 12) (hn : ns.length ≤ n) : Shows (tupI ns) (n * 15 + 3) 1 :=
  Shows.tup (B := 13) (k := 0) (fun x hx => by
    obtain ⟨i, hi, rfl⟩ := List.mem_map.mp hx
    exact Shows.int (h i hi)) (by rw [List.length_map]; exact hn)
mutual
theorem eqv_self : ∀ d : PyData, d.canLay0 = true → PyData.eqv d d = true
  | .none, _ => by simp only [PyData.eqv]
  | .bool b, _ => by simp [PyData.eqv]
  | .int i, _ => by simp [PyData.eqv]
  | .str x, _ => by simp [PyData.eqv]
  | .list ds, h => by simp only [PyData.eqv]; exact eqv_selfs ds (by simpa only [PyData.canLay0] using h)
  | .tuple ds, h => by simp only [PyData.eqv]; exact eqv_selfs ds (by simpa only [PyData.canLay0] using h)
  | .dict kvs, h => by simp [PyData.canLay0] at h
theorem eqv_selfs : ∀ ds : List PyData, PyData.canLayAll0 ds = true → PyData.eqvAll ds ds = true
  | [], _ => by simp only [PyData.eqvAll]
  | d :: ds, h => by
    simp only [PyData.canLayAll0, Bool.and_eq_true] at h
    simp only [PyData.eqvAll, eqv_self d h.1, eqv_selfs ds h.2, Bool.and_self]
end
theorem eqvAll_ints : ∀ a b : List Int, PyData.eqvAll (a.map PyData.int) (b.map PyData.int) = decide (a = b)
  | [], [] => by simp [PyData.eqvAll]
  | [], _ :: _ => by simp [PyData.eqvAll]
  | _ :: _, [] => by simp [PyData.eqvAll]
  | x :: a, y :: b => by
    simp only [List.map_cons, PyData.eqvAll, eqv_int, eqvAll_ints a b]
    rw [Bool.eq_iff_iff]
    simp
theorem eqv_tupI (a b : List Int) : PyData.eqv (tupI a) (tupI b) = decide (a = b) := by
  unfold tupI
  simp only [PyData.eqv]
  exact eqvAll_ints a b
/-! ### targets, for readings -/
theorem bind3_nm (i : Nat) (d : PyData) (env : E3) : bind3 (.nm i) d env = some (set3 env i (.p d)) := by unfold bind3; rfl
theorem bind3_tup (ts : Tgs) (ds : List PyData) (env : E3) : bind3 (.tup ts) (.tuple ds) env = binds3 ts ds env := by unfold bind3; rfl
theorem binds3_nil (env : E3) : binds3 .nil [] env = some env := by unfold binds3; rfl
theorem binds3_cons (t : Tg) (r : Tgs) (d : PyData) (ds : List PyData) (env : E3) : binds3 (.cons t r) (d :: ds) env = match bind3 t d env with
    | some env1 => binds3 r ds env1
    | none => none := by
  cases h : bind3 t d env <;> simp [binds3, h]
end L3

namespace L3
open PySem PySem.Spec PyProof.Rows L2
/-! ### sum of a tuple of ints -/
section
variable {X : Cx}
theorem cr_sumT (hc : X.calm = true) : CallR X (.builtin "sum") (fun vs H Q => ∃ (a : Addr) (ns : List Int), vs = [V.ref a] ∧ SqT X.K H a (ns.map V.int) ∧ Q (.int ns.sum) H) := by
  intro pins s σ H vs us Q I r h
  obtain ⟨a, ns, rfl, hs, q⟩ := h
  obtain ⟨its, rv, hl, _⟩ := I.tuple hs
  rw [Vals.ref1 r]
  have hi : IntsAre its ns := rv.ints
  obtain ⟨xs, e⟩ := hi.allInts.items
  have hn : numsOf (intItems xs).toList = ns := by rw [← e]; exact hi.numsOf
  rw [nums_intItems] at hn
  have hl' : s.heap.IsTuple a its.toArray := hl
  rw [e] at hl'
  refine PySem.W.ktm_sumG (I.ok.hd hc) hl' fun h' tk t' hk => ?_
  rw [preSum_eq, List.take_of_length_le (by simp), hn]
  exact ⟨.int _, H, I.kept hk, ⟨_, rfl⟩, q⟩
def rSumA3 : C3 := fun ds S Q => match ds with
  | [d] => match seq3 S d with
    | some es => (match allP int? es with
      | some ns => Q (.p (.int ns.sum)) S
      | none => False)
    | none => False
  | _ => False
theorem cq_sumA (hc : X.calm = true) : CQ X (.builtin "sum") rSumA3 := callq ((cr_sum hc).or (cr_sumT hc)) fun w S ds xs H Q R r0 p0 t q => by
  unfold rSumA3 at t
  split at t
  · obtain ⟨v, rfl, p⟩ := rds1 p0
    split at t
    · rename_i es h1
      split at t
      · rename_i bs h2
        obtain ⟨a, ys, rfl, hq, ha, _⟩ := seq3_low r0 p h1
        rw [allP_int h2] at ha
        rw [dp_ints ha] at hq
        rcases hq with hq | hq
        · exact .inl ⟨a, bs, rfl, hq, q.int r0 t⟩
        · exact .inr ⟨a, bs, rfl, hq, q.int r0 t⟩
      · exact t.elim
    · exact t.elim
  · exact t.elim
end
end L3

/-! ### int of a long text -/
namespace PySem.W
open PySem PySem.Calls PySem.NumText PyProof.Rows
namespace KIN
theorem wp_textL {M : Model} {A : Around} {E : Value → Shared → Prop} {s : Shared} {Q : Value → Shared → Prop} {v : Value} {text : List Nat} {n : Int} (hn : s.heap.NoDigits)
    (hs : ¬ (text.takeWhile (· != 0)).length ≤ 640) (hr : (int_private% "readNumeral") 4300 10 (text.takeWhile (· != 0)) = (int_private% "Numeral.value") n)
    (ha : ((text.takeWhile (· != 0)).length == text.length) = true) (h : Q (.int n s.toks) { s with toks := s.toks + 1 }) :
    wpAny M A ((int_private% "intFromText") v text 10) Q E s := by
  obtain ⟨hp, g, d, tk, os⟩ := s
  obtain ⟨mc, hns, hnone⟩ := hn
  have lim : ∀ {Q' : Nat → Shared → Prop}, Q' 4300 ⟨hp, g, d, tk, os⟩ → wpAny M A Builtin.intMaxStrDigits Q' E ⟨hp, g, d, tk, os⟩ := fun {Q'} q => by
    unfold Builtin.intMaxStrDigits
    refine wpAny_bind (wpAny_nsGet hns ?_)
    rw [hnone]
    exact wpAny_pure q
  repeat (any_goals (first
    | assumption
    | (with_reducible refine wpAny_ite_false (decide_eq_false hs) ?_)
    | (with_reducible refine wpAny_ite_true (decide_eq_true ha) ?_)
    | (refine lim ?_)
    | wp_step))
  all_goals (try rw [hr])
  all_goals (try dsimp only)
  repeat (any_goals (first
    | assumption
    | (with_reducible refine wpAny_ite_true (decide_eq_true ha) ?_)
    | wp_step))
end KIN
end PySem.W
namespace PySem.W
open PySem PySem.Calls PySem.NumText PyProof.Rows
namespace KIN
set_option maxHeartbeats 4000000 in
theorem meets_textL {x : PySem.Str} {u : Tok} {n : Int} (hz : x.length ≤ sizeLine) (hl : ¬ (numSeenOf x).length ≤ 640) (hn : PySem.intText? x = some n) :
    Meets (Builtin.«int.__new__» ⟨[.type "int", .str x u], []⟩) (fun _ R s => s.heap.NoDigits ∧ R (.ok (.ret (.int n s.toks))) { s with toks := s.toks + 1 }) :=
  .of_wp fun prog w A R s h => by
    obtain ⟨hp, g, d, tk, os⟩ := s
    obtain ⟨hnd, h⟩ := h
    have f1 := F.conv_sub_int
    have f2 := F.madeHere_int
    have f3 := str_int
    have f4 := str_idx
    have f5 := str_trunc
    have f6 : typeOf (.str x u) = pure (.type "str") := rfl
    have hr : (int_private% "readNumeral") 4300 10 (numSeenOf x) = (int_private% "Numeral.value") n ∧ ((numSeenOf x).length == (numTextOf x).length) = true := by
      rcases read4300 x hz with ⟨m, h1, h2, h3⟩ | ⟨h1, _⟩
      · rw [hn] at h1
        injection h1 with h1
        subst h1
        exact ⟨h3, h2⟩
      · rw [hn] at h1
        cases h1
    have hk := Hid.mk (And.intro hnd (And.intro hl hr))
    clear hl hr hn hz hnd
    repeat (any_goals (first
      | assumption
      | ((with_reducible show wpAny _ _ ((int_private% "intFromText") _ _ _) _ _ _); refine wp_textL hk.out.1 hk.out.2.1 hk.out.2.2.1 hk.out.2.2.2 ?_)
      | wp_step))
    all_goals first | exact ⟨_, rfl, h⟩ | skip
end KIN
end PySem.W
namespace L3
open PySem PySem.Spec PyProof.Rows L2 PySem.NumText
def TextN (a : Str) (n : Int) : Prop := PySem.intText? a = some n ∧ a.length ≤ 16777216 ∧ (a.length ≤ 640 ∨ ¬ (numSeenOf a).length ≤ 640)
section
variable {X : Cx}
theorem call_int_long (hnd : X.base.NoDigits) : CallR X (.type "int") (fun xs H Q => ∃ a n, xs = [.str a] ∧ TextN a n ∧ Q (.int n) H) := by
  intro pins s σ H xs us Q I rs h
  obtain ⟨a, n, rfl, ⟨hn, hl, hc⟩, h⟩ := h
  have hz : sizeLine = 16777216 := sizeLine_eq
  cases rs with
  | cons r1 rs =>
    cases rs
    obtain ⟨t, rfl⟩ := r1
    rcases hc with hc | hc
    · exact PySem.W.KIN.call_text hn hc ⟨.int n, H, I.tok _, ⟨_, rfl⟩, h⟩
    · refine PySem.call_int_1 (PySem.W.KIN.meets_textL (by omega) hc hn) ⟨hnd.keeps I.bk, ?_⟩
      exact ⟨typeIs_int _ _ _, .int n, H, I.tok _, ⟨_, rfl⟩, h⟩
/-- a text of one sign, so and so often -/
def repS (a : Str) (k : Int) : Str := ⟨(List.replicate k.toNat a.cps).foldl (· ++ ·) #[]⟩
theorem repS_list (a : Str) (k : Int) : (repS a k).cps.toList = (List.replicate k.toNat a.cps.toList).flatten := by
  unfold repS
  show ((List.replicate k.toNat a.cps).foldl (· ++ ·) #[]).toList = _
  have go : ∀ (m : Nat) (acc : Array Nat), ((List.replicate m a.cps).foldl (· ++ ·) acc).toList = acc.toList ++ (List.replicate m a.cps.toList).flatten := by
    intro m
    induction m with
    | zero => intro acc; simp
    | succ m ih =>
      intro acc
      rw [List.replicate_succ, List.foldl_cons, ih, List.replicate_succ, List.flatten_cons]
      simp
  rw [go]
  simp
theorem repS_one {a : Str} {c : Nat} (h : a.cps.toList = [c]) (k : Int) : (repS a k).cps.toList = List.replicate k.toNat c := by
  rw [repS_list, h]
  induction k.toNat with
  | zero => rfl
  | succ n ih => rw [List.replicate_succ, List.flatten_cons, ih, List.replicate_succ]; rfl
theorem op_mulS : OpR X (binaryOp .Mult) (fun x y H Q => ∃ a k, x = .str a ∧ y = .int k ∧ a.length = 1 ∧ 2 ≤ k ∧ k ≤ 100000 ∧ Q (.str (repS a k)) H) := by
  intro pins s σ H x y v u Q I rx ry h
  obtain ⟨a, k, rfl, rfl, h1, h2, h3, q⟩ := h
  obtain ⟨t, rfl⟩ := rx
  obtain ⟨t', rfl⟩ := ry
  have hz : sizeLine = 16777216 := sizeLine_eq
  have hne : (k == 1 || a.length == 0) = false := by
    rw [h1]
    simp
    omega
  have hlen : (repS a k).length ≤ sizeLine := by
    obtain ⟨c, hc⟩ : ∃ c, a.cps.toList = [c] := List.length_eq_one_iff.mp (by rw [Array.length_toList]; exact h1)
    have := repS_one hc k
    have e : (repS a k).length = k.toNat := by
      show (repS a k).cps.size = _
      rw [← Array.length_toList, this, List.length_replicate]
    omega
  refine PySem.P.mul_str (by rw [decide_eq_false (by omega), decide_eq_false (by omega)]; rfl) (fun _ _ => ?_) (fun _ _ => ?_) ?_
  · rw [h1]
    have : (1 : Int) ≤ (2 ^ 63 - 1) / k := (Int.le_ediv_iff_mul_le (by omega)).mpr (by omega)
    omega
  · unfold Builtin.Str.tooLong
    rw [h1, hz]
    exact decide_eq_false (by omega)
  · rw [if_neg (by omega), if_neg (by rw [hne]; exact Bool.false_ne_true)]
    exact ⟨hlen, ⟨.str _, H, I.tok _, ⟨_, rfl⟩, q⟩⟩
def rMulS3 : R3 := fun x y S Q => match x, y with
  | .p (.str a), .p (.int k) => (a.length = 1 ∧ 2 ≤ k ∧ k ≤ 100000) ∧ Q (.p (.str (repS a k))) S
  | _, _ => False
theorem oq_mulS : OQ X (binaryOp .Mult) rMulS3 := opq op_mulS fun w S d e x y H Q R r0 p1 p2 t q => by
  unfold rMulS3 at t
  split at t
  · obtain ⟨⟨h1, h2, h3⟩, t⟩ := t
    exact ⟨_, _, dp_str p1, dp_int p2, h1, h2, h3, q.str r0 t⟩
  · exact t.elim
def rIntT3 : C3 := fun ds S Q => match ds with
  | [.p (.str a)] => ∃ n, TextN a n ∧ Q (.p (.int n)) S
  | _ => False
theorem cq_intT (hnd : X.base.NoDigits) : CQ X (.type "int") rIntT3 := callq (call_int_long hnd) fun w S ds xs H Q R r0 p1 t q => by
  unfold rIntT3 at t
  split at t
  · obtain ⟨v, rfl, p⟩ := rds1 p1
    have := dp_str p
    subst this
    obtain ⟨n, h1, t⟩ := t
    exact ⟨_, n, rfl, h1, q.int r0 t⟩
  · exact t.elim
/-- 1 and k noughts -/
theorem text_big {k : Int} (h0 : 2 ≤ k) (h1 : k ≤ 4299) : ∃ n : Int, TextN (PySem.Str.ofString "1" ++ repS (PySem.Str.ofString "0") k) n ∧ 0 < n := by
  have e0 : (repS (PySem.Str.ofString "0") k).cps.toList = List.replicate k.toNat 48 := repS_one (by decide +kernel) k
  have e : (PySem.Str.ofString "1" ++ repS (PySem.Str.ofString "0") k).cps.toList = 49 :: List.replicate k.toNat 48 := by
    show ((PySem.Str.ofString "1").cps ++ (repS (PySem.Str.ofString "0") k).cps).toList = _
    rw [Array.toList_append, e0]
    rfl
  have hl : (PySem.Str.ofString "1" ++ repS (PySem.Str.ofString "0") k).length = k.toNat + 1 := by
    show (PySem.Str.ofString "1" ++ repS (PySem.Str.ofString "0") k).cps.size = _
    rw [← Array.length_toList, e, List.length_cons, List.length_replicate]
  have ad : AllDigits (PySem.Str.ofString "1" ++ repS (PySem.Str.ofString "0") k).cps.toList := by
    rw [e]
    intro c hc
    rcases List.mem_cons.mp hc with rfl | hc
    · decide
    · rw [(List.mem_replicate.mp hc).2]
      decide
  refine ⟨_, ⟨intText_digits ad (by rw [e]; simp) (by omega), by omega, ?_⟩, ?_⟩
  · obtain ⟨_, e2⟩ := numText_signs (fun c hc => Or.inr (ad c hc))
    rw [e2, e, List.length_cons, List.length_replicate, hl]
    omega
  · rw [e]
    have := digitsVal_pos (c := 49) (cs := List.replicate k.toNat 48) (by decide)
    omega
end
/-! ### the law's head, with the digits' limit as it stands at first -/
theorem call_headD {P : Program} {w : World} {K : PySem.W.Frag} {mg mb : Str → Option Value} {k : Nat} {fa a : Addr} {fd : FuncData} {x : Str} {sp : L2.Sp} {s₁ : Shared} {vs : List Value} {ns : List Int}
    (KX : K.In s₁.heap) (hns : s₁.heap.Ns mainGlobals mg) (hb : s₁.heap.Ns builtinsNs mb) (hbb : ∀ x : Str, x ≠ "__name__" → mb x = bootBuiltins x) (hlim : s₁.heap.NoLimit) (hdg : s₁.heap.NoDigits) (hg : s₁.gens = #[])
    (ha : s₁.heap.get? a = some { cls := .type "list", data := .seq vs.toArray }) (hi : IntsAre vs ns) (hl : ns.length ≤ sizeLine) (hr : Room k callerA)
    (F : ∀ base : Heap, K.In base → base.Ns mainGlobals mg → base.NoDigits → FnG P w K mg base k fa fd [x] sp) (hbind : ∀ (s : Shared) (u : Value), BindsTo s fd ⟨[u], []⟩ [(x, u)])
    (hsp : ∀ H : Hp, Only H → SqL K H a (ns.map V.int) → sp [.ref a] H (fun v _ => v = .bl true) fun _ _ _ => False) :
    codeAny (model P w) callerA (.call (.ref fa) ⟨[.ref a], []⟩) (fun r s' => r = .ok (.ret (.bool true)) ∧ OldK s₁.heap s'.heap ∧ s'.os = s₁.os ∧ AllBare s'.gens) s₁ := by
  have rv := vals_ints hi
  have lenV := hi.length
  have go : ∀ H : Hp, Only H → SqL K H a (ns.map V.int) → HOk P w H s₁.heap → (∀ b, H b ≠ none → b = a) → (H a ≠ none → K.lookup a = none) →
      codeAny (model P w) callerA (.call (.ref fa) ⟨[.ref a], []⟩) (fun r s' => r = .ok (.ret (.bool true)) ∧ OldK s₁.heap s'.heap ∧ s'.os = s₁.os ∧ AllBare s'.gens) s₁ := fun H hO hS hok hA hK => by
    have free : ∀ {b : Addr}, (b = a → False) → H b = none := fun {b} n => by
      cases q : H b with
      | none => rfl
      | some u => exact (n (hA b (by rw [q]; simp))).elim
    have nsK : ∀ {b : Addr} {m : Str → Option Value}, s₁.heap.Ns b m → (hidT s₁.heap H).Ns b m := fun {b m} ⟨o, es, ep, e, d, r⟩ => ⟨o, es, ep, hidT_get e (free fun z => by
      subst z
      rw [ha] at e
      cases e
      cases (show Data.seq vs.toArray _ = Data.dict es ep from d)), d, r⟩
    have hKb : K.In (hidT s₁.heap H) := fun b o e => hidT_get (KX b o e) (by
      cases q : H b with
      | none => rfl
      | some u =>
        have z := hA b (by rw [q]; simp)
        subst z
        rw [hK (by rw [q]; simp)] at e
        cases e)
    have hM : Mod K mg (hidT s₁.heap H) := ⟨hKb, nsK hns, ⟨mb, nsK hb, hbb⟩, let ⟨mc, h1, h2⟩ := hlim; ⟨mc, nsK h1, h2⟩⟩
    have e0 : Env0 P w K mg (hidT s₁.heap H) callerA [] s₁ H := ⟨rfl, hM, fun b o e => of_hidT e, Nat.le_of_eq (hidT_size _ _), trivial, fun b hb => absurd (show b ∈ ([] : List Addr) from hb) (by simp), hok, .of_eq hg⟩
    refine codeAny_mono ((F _ hKb (nsK hns) (let ⟨mc, h1, h2⟩ := hdg; ⟨mc, nsK h1, h2⟩)).run callerA [] s₁ H ⟨[.ref a], []⟩ [.ref a] [.ref a] _ _ rfl hr e0 (hbind s₁ (.ref a)) (.cons rfl .nil) (hsp H hO hS)) fun r s' h => ?_
    cases r with
    | error e => exact h.elim
    | ok fl =>
      cases fl with
      | next => exact False.elim h
      | brk => exact False.elim h
      | cont => exact False.elim h
      | ret u =>
        obtain ⟨v, H', os, bare, un, hok', r', q⟩ := h
        subst q
        cases r'
        refine ⟨rfl, OldK.of_keep fun b o e => ?_, os, bare⟩
        cases q : H b with
        | none => exact un.keep b o e q (by intro z; exact absurd (show b ∈ ([] : List Addr) from z) (by simp)) (by simp)
        | some u =>
          rcases hO b with z | ⟨ob, xs, z⟩
          · rw [q] at z; cases z
          · obtain ⟨e1, _⟩ := hok b _ z
            obtain ⟨e2, _⟩ := hok' b _ (un.frzs b ob _ z)
            rw [e] at e1
            cases e1
            exact e2
  cases hk : K.lookup a with
  | some o =>
    have e := KX a o hk
    rw [ha] at e
    cases e
    exact go (fun _ => none) (fun _ => .inl rfl) (.inr ⟨_, vs.toArray, _, hk, rfl, rfl, rfl, by rw [List.size_toArray, lenV]; exact hl, by simpa using rv⟩) (fun b u z => nomatch z) (fun b z => absurd rfl z) fun z => absurd rfl z
  | none =>
    refine go (upd (fun _ => none) a (.frz { cls := .type "list", data := .seq vs.toArray } (.lst (ns.map V.int)))) (fun b => ?_) (.inl (.inr ⟨{ cls := .type "list", data := .seq vs.toArray }, upd_same⟩)) (fun b u z => ?_) (fun b z => ?_) fun _ => hk
    · by_cases hb : b = a
      · subst hb
        exact .inr ⟨_, _, upd_same⟩
      · exact .inl (upd_ne hb)
    · by_cases hb : b = a
      · subst hb
        rw [upd_same] at z
        cases z
        exact ⟨ha, by rw [List.length_map]; exact hl, vs, _, rv, ha⟩
      · rw [upd_ne hb] at z
        cases z
    · by_cases hb : b = a
      · exact hb
      · exact absurd (upd_ne hb) z
theorem walk_ofD {l : PySem.W.OpenLaw} {n k : Nat} {q : Program} {loose : List Str} {XP : (Str → Option Value) → Heap → Prop} {YP : World → Heap → Prop} {d : DefRec} {K : Params → PySem.W.Frag} {sp : World → L2.Sp} {x : Str}
    (hn : l.most = some n) (hn2 : n ≤ sizeLine) (hdf : d.params.defaults = []) (hr : Room k callerA)
    (hY : ∀ (w : World) (h : Heap), YP w h → (K w.params).In h)
    (F : ∀ (w : World) (mg : Str → Option Value) (fa : Addr) (h : Heap), (K w.params).In h → h.Ns mainGlobals mg → mg d.name = some (.ref fa) →
      ∃ fd : FuncData, (∀ (s : Shared) (u : Value), BindsTo s fd ⟨[u], []⟩ [(x, u)]) ∧
        ∀ base : Heap, (K w.params).In base → base.Ns mainGlobals mg → base.NoDigits → FnG l.prog w (K w.params) mg base k fa fd [x] (sp w))
    (hsp : ∀ (w : World) (H : Hp) (a : Addr) (ns : List Int), ns.length ≤ n → Only H → SqL (K w.params) H a (ns.map V.int) → sp w [.ref a] H (fun v _ => v = .bl true) fun _ _ _ => False) :
    PySem.W.WalkO q loose XP YP l.row.toRowW d [] (fun f vs => PySem.call f vs) := by
  refine Att.attach_call hn hdf fun w s₀ s₁ mg mb fa o pm cd doc a vs ns G Y ho hd hcd hmg hobj hints hlen hg => ?_
  obtain ⟨fd, hb, hF⟩ := F w mg fa _ (hY w _ Y) G.T.g hmg
  exact call_headD (hY w _ Y) G.T.g G.T.b G.T.builtins G.T.nolimit G.T.nodigits hg hobj hints (Nat.le_trans hlen hn2) hr hF hb fun H hO hS => hsp w H a ns hlen hO hS
end L3

namespace L3
open PySem PySem.Spec PyProof.Rows L2
/-! ### xs.extend(new list) -/
def tExt3 (to : TE3) (tn : TN3) : TE3 := fun env S Q => to env S fun o S1 => match own3 S1 o with
  | some _ => tn env S1 fun es S2 => match own3 S2 o with
    | some (n, ds) => ds.length + es.length ≤ 16777216 ∧ Q (.p .none) (S2.set n (some (.lst (ds ++ es))))
    | none => False
  | none => False
section
variable {X : Cx} {o e : Expr} {to te : TE3} {tn : TN3} {apos cpos pos : Pos}
theorem qe_extend (ho : QE X o to) (he : QN X e tn) (hbase : attributeBase o "extend" X.env (eval o X.env) = eval o X.env := by rfl)
    (hfew : ((backTo cpos (starEach [e] X.env)).all (fun x => !x.1) && (backToKw cpos (keywordEach [] X.env)).all (fun x => x.1.isSome)
      && decide (([e] : List Expr).length + ([] : List Keyword).length + (if ([] : List Keyword).isEmpty then 0 else 1) < 30)) = true := by rfl)
    (hline : (apos.endLine == cpos.line) = true := by rfl) (hs : starEach [e] X.env = (false, eval e X.env) :: starEach [] X.env := by rfl) (hplain : (backTo cpos (starEach [] X.env)).any (·.1) = false := by rfl) :
    QE X (.Call (.Attribute o "extend" apos) [e] [] cpos) (tExt3 to tn) :=
  (pe_bm PySem.F.plainAttrs_list PySem.F.slot_list_extend PySem.F.type_list_extend mt_extend ho (pa_cons he pa_nil hs) hbase hfew hline hs hplain).imp fun σ H R ⟨w, env, S, Q, r0, en, t, q⟩ => by
    have hz : sizeLine = 16777216 := sizeLine_eq
    refine ⟨w, env, S, _, r0, en, t, fun w1 v d H1 S1 e1 r1 p1 t1 => ?_⟩
    split at t1
    · rename_i nd ho1
      obtain ⟨n0, ds0⟩ := nd
      obtain ⟨a0, xs0, rfl, hd0, _, _, hu0, _, _⟩ := own3_low r1 p1 ho1
      refine ⟨.inl ⟨rfl, xs0, .inl (.inl hu0)⟩, ?_⟩
      refine ⟨w1, env, S1, _, r1, en.mono e1, t1, fun w2 b zs es H2 S2 e2 r2 hn hzs hzl t2 => ?_⟩
      split at t2
      · rename_i n ds ho2
        obtain ⟨a, xs, hva, rfl, ha, hs, hu, hd, hzz⟩ := own3_low r2 (p1.mono e2) ho2
        cases hva
        have hl := DpAll.length hd
        have hl2 := DpAll.length hzs
        obtain ⟨r3, e3⟩ := r2.frz (u := .lst zs) hn (by show zs.length ≤ _; omega)
        have hne : a0 ≠ b := fun z => by rw [z, hn] at hu; cases hu
        refine ⟨_, b, xs, zs, rfl, rfl, by rw [upd_ne hne]; exact hu, upd_same, by omega, ?_⟩
        exact q _ .non (.p .none) _ _ ((e1.trans e2).trans e3) (r3.put (o' := .lst (ds ++ es)) ha hs ⟨_, rfl, DpAll.append (dpAll_mono e3.h _ _ hd) (dpAll_mono e3.h _ _ hzs), by rw [List.length_append]; omega⟩) rep_non t2.2
      · exact t2.elim
    · exact t1.elim
end
/-! ### x in data -/
def rIn3 (neg : Bool) : R3 := fun x y S Q => match x with
  | .p d => (match lst3 S y with
    | some ds => (SeqAt.shaped d = true ∧ SeqAt.shaped (.list ds) = true) ∧ Q (.p (.bool (if neg then !ds.any fun z => PyData.eqv z d else ds.any fun z => PyData.eqv z d))) S
    | none => False)
  | _ => False
theorem lst3_dp {K : PySem.W.Frag} {w : W3} {H : Hp} {S : S3} {v : V} {d : D} {ds : List PyData} (r : Rel3 K w H S) (p : RepD K w v d) (h : lst3 S d = some ds) : Dp K H v (.list ds) := by
  obtain ⟨a, xs, rfl, hq, ha, _⟩ := lst3_low r p h
  exact .lst hq (dpAll_mono r.sub _ _ ha)
theorem oq_in {X : Cx} (hu : X.A.units + 65 < cLine) : OQ X (compareOp .In) (rIn3 false) := opq (op_inD hu) fun w S d e x y H Q R r0 p1 p2 t q => by
  unfold rIn3 at t
  split at t
  · split at t
    · rename_i ds h
      exact ⟨_, ds, (dp_mono r0.sub _ _ p1).sh t.1.1, (lst3_dp r0 p2 h).sh t.1.2, t.1.1, t.1.2, q.bl r0 t.2⟩
    · exact t.elim
  · exact t.elim
theorem oq_notin {X : Cx} (hu : X.A.units + 65 < cLine) : OQ X (compareOp .NotIn) (rIn3 true) := opq (op_notInD hu) fun w S d e x y H Q R r0 p1 p2 t q => by
  unfold rIn3 at t
  split at t
  · split at t
    · rename_i ds h
      exact ⟨_, ds, (dp_mono r0.sub _ _ p1).sh t.1.1, (lst3_dp r0 p2 h).sh t.1.2, t.1.1, t.1.2, q.bl r0 t.2⟩
    · exact t.elim
  · exact t.elim
/-! ### sorted(ints) -/
def insI (x : Int) : List Int → List Int
  | [] => [x]
  | y :: ys => if x ≤ y then x :: y :: ys else y :: insI x ys
def sortI : List Int → List Int
  | [] => []
  | x :: xs => insI x (sortI xs)
def tSortedI3 (te : TE3) : TN3 := fun env S Q => te env S fun x S1 => match lst3 S1 x with
  | some ds => (match allP int? ds with
    | some ns => ∀ ms : List Int, ms.Perm ns → ms.Pairwise (· ≤ ·) → Q (ms.map PyData.int) S1
    | none => False)
  | none => False
section
variable {X : Cx} {e : Expr} {te : TE3} {p pos : Pos}
theorem qn_sortedI (hg : Gl X "sorted") (hm : X.mg "sorted" = none) (ha : QE X e te) (hs : starEach [e] X.env = (false, eval e X.env) :: starEach [] X.env := by rfl) (hpl : (backTo pos (starEach [] X.env)).any (·.1) = false := by rfl) :
    QN X (.Call (.Name "sorted" p) [e] [] pos) (tSortedI3 te) := L2.PE.imp (pe_callB cr_sortedI hg hm (by decide +kernel) (pa_cons ha pa_nil hs) (by decide) (by decide) hs hpl) fun σ H R ⟨w, env, S, Q, r0, en, t, q⟩ => by
  refine ⟨w, env, S, _, r0, en, t, fun w1 v d H1 S1 e1 r1 p1 t1 => ?_⟩
  split at t1
  · rename_i ds h1
    split at t1
    · rename_i ns h2
      obtain ⟨a, xs, rfl, hq, ha, hz⟩ := lst3_low r1 p1 h1
      have hz' : ds.length ≤ sizeLine := hz
      rw [allP_int h2] at ha hz'
      rw [dp_ints ha] at hq
      refine ⟨a, ns, rfl, hq, fun ms p hp hw hn => ?_⟩
      exact q w1 p (ms.map V.int) (ms.map PyData.int) H1 S1 e1 r1 hn (dpAll_ints ms) (by rw [List.length_map, hp.length_eq]; simpa using hz') (t1 ms hp hw)
    · exact t1.elim
  · exact t1.elim
end
/-! ### x op= e, ints -/
def tAug3 (i : Nat) (r : R3) (te : TE3) : TS3 := fun D env S => match at3 env i with
  | some x => te env S fun y S1 => r x y S1 fun z S2 => D.nx (set3 env i z) S2
  | none => False
def rIp3 (C : Int → Int → Prop) (f : Int → Int → Int) : R3 := rInt C fun i j => .int (f i j)
section
variable {X : Cx} {e : Expr} {te : TE3} {pos : Pos}
theorem ip_fdiv : PIp X .FloorDiv (fun x y H Q => ∃ i j, x = .int i ∧ y = .int j ∧ CDivW i j ∧ Q (.int (i / j)) H) := by
  intro pins s σ H x y v u Q I r1 r2 h
  obtain ⟨i, j, rfl, rfl, hc, q⟩ := h
  obtain ⟨t, rfl⟩ := r1
  obtain ⟨t', rfl⟩ := r2
  have h1 : (0 : Int) < j := hc.1
  refine PySem.AutoIntOps.ifloordiv_1 (by simp; omega) (by rw [Bool.not_eq_true]; exact PyProof.noPylong_of_log2 hc.2) ?_
  rw [Int.fdiv_eq_ediv_of_nonneg i (by omega)]
  exact ⟨.int _, H, I.tok _, ⟨_, rfl⟩, q⟩
theorem low_aug {K : PySem.W.Frag} {i : Nat} {r : R3} {tip : TIp} (hi : ∀ x y H R, lowR K r x y H R → tip x y H R) {D : Ends} {σ : L2.St} {H : Hp} (h : lowS K (tAug3 i r te) D σ H) : L2.tAug i (low K te) tip D σ H := by
  obtain ⟨w, env, S, D3, r0, en, t, q⟩ := h
  unfold tAug3 at t
  split at t
  · rename_i x hx
    obtain ⟨v, hv, p0⟩ := en.2 i x hx
    refine ⟨v, hv, w, env, S, _, r0, en, t, fun w1 u y H1 S1 e1 r1 p1 t1 => ?_⟩
    refine hi _ _ _ _ ⟨w1, S1, x, y, _, r1, p0.mono e1, p1, t1, fun w2 z d2 H2 S2 e2 r2 p2 t2 => ?_⟩
    exact q.nx w2 _ H2 _ S2 (e1.trans e2) r2 (((en.mono e1).mono e2).set i p2) t2
  · exact t.elim
theorem qs_aug {i : Nat} {x : Str} {op : Operator} {r : R3} {tip : TIp} {pos' : Pos} (hN : X.N.Nodup) (hi : X.N[i]? = some x) (hx : Loc X.env.scope x) (he : QE X e te) (ho : PIp X op tip ∧ ∀ x y H R, lowR X.K r x y H R → tip x y H R) (hf : X.fn x = true ∨ X.env.scope.names.lookup x = some .local := by first | exact .inl rfl | exact .inr rfl | assumption) :
    QS X (.AugAssign (.Name x pos') op e pos) (tAug3 i r te) := (ps_aug hN hi hx he ho.1 hf).imp fun D σ H h => low_aug ho.2 h
theorem pq_add : PIp X .Add (ipI fun i j => i + j) ∧ ∀ x y H R, lowR X.K (rInt0 fun i j => .int (i + j)) x y H R → ipI (fun i j => i + j) x y H R := ⟨ip_add, fun x y H R ⟨w, S, d, e, Q, r0, p1, p2, t, q⟩ => by
  obtain ⟨i, j, rfl, rfl, t⟩ := rint0_inv t
  exact ⟨i, j, dp_int p1, dp_int p2, q.int r0 t⟩⟩
theorem pq_sub : PIp X .Sub (ipI fun i j => i - j) ∧ ∀ x y H R, lowR X.K rSub3 x y H R → ipI (fun i j => i - j) x y H R := ⟨ip_sub, fun x y H R ⟨w, S, d, e, Q, r0, p1, p2, t, q⟩ => by
  obtain ⟨i, j, rfl, rfl, t⟩ := rint0_inv t
  exact ⟨i, j, dp_int p1, dp_int p2, q.int r0 t⟩⟩
theorem pq_div : PIp X .FloorDiv (fun x y H Q => ∃ i j, x = .int i ∧ y = .int j ∧ CDivW i j ∧ Q (.int (i / j)) H) ∧ ∀ x y H R, lowR X.K rDiv3 x y H R → (∃ i j, x = .int i ∧ y = .int j ∧ CDivW i j ∧ R (.int (i / j)) H) := ⟨ip_fdiv, fun x y H R ⟨w, S, d, e, Q, r0, p1, p2, t, q⟩ => by
  obtain ⟨i, j, rfl, rfl, hc, t⟩ := rint_inv t
  exact ⟨i, j, dp_int p1, dp_int p2, hc.log, q.int r0 t⟩⟩
end
/-! ### a def that calls itself: nothing is promised at first -/
theorem ok3_never {P : Program} {w : World} {K : PySem.W.Frag} {mg : Str → Option Value} {base : Heap} {x : Str} {st : Stmt} {f : Addr} {fd : FuncData} {ps : List Str} {k : Nat} (F : Fun K x x st f fd) (hm : mg x = some (.ref f)) (b : Binds K fd ps []) : Ok3 P w K mg base k x (fun _ _ _ => False) :=
  ⟨f, fd, ps, hm, F.kp, b, ⟨fun vs H Q E h => let ⟨_, _, _, _, _, _, q, _⟩ := h; q.elim, fun A outer s H args us vs Q E _ _ _ _ h => let ⟨_, _, _, _, _, _, q, _⟩ := h; q.elim⟩⟩
end L3

namespace L3
open PySem PySem.Spec PyProof.Rows L2
/-! ### sorted(data), any number of them -/
open PySem.W in
theorem each_zip {X : Cx} {pins : List (Addr × Obj)} {σ : L2.St} {H : Hp} {s : Shared} (I : L2.Inv X pins σ H s) : ∀ {its : List Value} {xs : List V} {ds : List PyData}, Vals xs its → DpAll X.K H xs ds →
    EachIs (fun v (b : V × PyData) => RelV b.1 v) its (xs.zip ds) ∧ EachIs (fun v (b : V × PyData) => ∃ as, Reads s.heap v b.2 as) its (xs.zip ds)
  | _, _, _, .nil, .nil => ⟨.nil, .nil⟩
  | _, _, _, .cons r rs, .cons p ps => by
    obtain ⟨h1, h2⟩ := each_zip I rs ps
    exact ⟨.cons r h1, .cons (Dp.reads I _ _ _ p r) h2⟩
open PySem.W in
theorem vals_each : ∀ {out : List Value} {bs : List (V × PyData)}, EachIs (fun v (b : V × PyData) => RelV b.1 v) out bs → Vals (bs.map (·.1)) out
  | _, _, .nil => .nil
  | _, _, .cons r rs => .cons r (vals_each rs)
theorem zip_snd : ∀ {xs : List V} {ds : List PyData}, xs.length = ds.length → (xs.zip ds).map (·.2) = ds
  | [], [], _ => rfl
  | x :: xs, d :: ds, h => by
    rw [List.zip_cons_cons, List.map_cons, zip_snd (by simpa using h)]
  | [], _ :: _, h => by cases h
  | _ :: _, [], h => by cases h
open PySem.W in
def rSortedD (K : PySem.W.Frag) : List V → Hp → VK → Prop := fun vs H Q => ∃ (a : Addr) (xs : List V) (ds : List PyData), vs = [V.ref a] ∧ SqL K H a xs ∧ DpAll K H xs ds ∧ AllAlike ds ∧ Sortable ds ∧ (∀ d ∈ ds, d.depth ≤ 60) ∧
  ∀ p, H p = none → Q (.ref p) (upd H p (.lst (((xs.zip ds).mergeSort (dataLe false Prod.snd)).map (·.1))))
open PySem.W in
theorem cr_sortedD {X : Cx} (hu : X.A.units + 64 < cLine) : CallR X (.builtin "sorted") (rSortedD X.K) := by
  intro pins s σ H vs us Q I r h
  obtain ⟨a, xs, ds, rfl, hs, hd, hal, hk, hdep, q⟩ := h
  obtain ⟨its, rv, hl, hz⟩ := I.list hs
  rw [Vals.ref1 r]
  obtain ⟨e1, e2⟩ := each_zip I rv hd
  have hlen := DpAll.length hd
  have hsnd := zip_snd hlen
  have hm : (xs.zip ds).map Prod.snd = ds := hsnd
  have hbl : (xs.zip ds).length = xs.length := by rw [List.length_zip]; omega
  refine sorted_data (bs := xs.zip ds) (enc := Prod.snd) (R := fun v (b : V × PyData) => RelV b.1 v) hl.isList e1 e2 (by rw [hm]; exact hal) (by rw [hm]; exact hk) (by rw [hbl]; exact hz) (fun b hb => ?_) fun out ho hR => ?_
  · have : b.2 ∈ ds := by
      rw [← hm]
      exact List.mem_map.mpr ⟨b, hb, rfl⟩
    have := hdep _ this
    omega
  · obtain ⟨ep, he'⟩ := PyProof.Rows.sortedAll_at s.heap its out.toArray
    have hl2 : (((xs.zip ds).mergeSort (dataLe false Prod.snd)).map (·.1)).length ≤ sizeLine := by
      rw [List.length_map, List.length_mergeSort, hbl]
      exact hz
    exact ⟨.ref _, upd H (s.heap.objs.size + 1) (.lst (((xs.zip ds).mergeSort (dataLe false Prod.snd)).map (·.1))), I.laid (t' := s.toks) (fun _ _ => PyProof.Rows.sortedAll_old) (Nat.le_succ _) ⟨hl2, out, ep, vals_each hR, he'⟩, rfl, q _ (I.hok.fresh (Nat.le_succ _))⟩
/-- the data in order -/
def sortD (ds : List PyData) : List PyData := ds.mergeSort (PySem.W.dataLe false id)
theorem zip_dp {K : PySem.W.Frag} {h : Hp} : ∀ {xs : List V} {ds : List PyData}, DpAll K h xs ds → ∀ p ∈ xs.zip ds, Dp K h p.1 p.2
  | _, _, .nil, p, hp => by cases hp
  | _, _, .cons r rs, p, hp => by
    rcases List.mem_cons.mp hp with rfl | hp
    · exact r
    · exact zip_dp rs p hp
theorem dp_unzip {K : PySem.W.Frag} {h : Hp} : ∀ {ps : List (V × PyData)}, (∀ p ∈ ps, Dp K h p.1 p.2) → DpAll K h (ps.map (·.1)) (ps.map (·.2))
  | [], _ => .nil
  | p :: ps, hp => .cons (hp p List.mem_cons_self) (dp_unzip fun q hq => hp q (List.mem_cons_of_mem _ hq))
def tSortedD3 (te : TE3) : TN3 := fun env S Q => te env S fun x S1 => match lst3 S1 x with
  | some ds => (PySem.W.AllAlike ds ∧ PySem.W.Sortable ds ∧ ∀ d ∈ ds, d.depth ≤ 60) ∧ Q (sortD ds) S1
  | none => False
theorem qn_sortedD {X : Cx} {e : Expr} {te : TE3} {p pos : Pos} (hu : X.A.units + 64 < cLine) (hg : Gl X "sorted") (hm : X.mg "sorted" = none) (ha : QE X e te) (hs : starEach [e] X.env = (false, eval e X.env) :: starEach [] X.env := by rfl) (hpl : (backTo pos (starEach [] X.env)).any (·.1) = false := by rfl) :
    QN X (.Call (.Name "sorted" p) [e] [] pos) (tSortedD3 te) := L2.PE.imp (pe_callB (cr_sortedD hu) hg hm (by decide +kernel) (pa_cons ha pa_nil hs) (by decide) (by decide) hs hpl) fun σ H R ⟨w, env, S, Q, r0, en, t, q⟩ => by
  refine ⟨w, env, S, _, r0, en, t, fun w1 v d H1 S1 e1 r1 p1 t1 => ?_⟩
  split at t1
  · rename_i ds h1
    obtain ⟨a, xs, rfl, hq, hd, hz⟩ := lst3_low r1 p1 h1
    have hlen := DpAll.length hd
    obtain ⟨⟨c1, c2, c3⟩, t1⟩ := t1
    refine ⟨a, xs, ds, rfl, hq, dpAll_mono r1.sub _ _ hd, c1, c2, c3, fun p hn => ?_⟩
    have hsnd : ((xs.zip ds).mergeSort (PySem.W.dataLe false Prod.snd)).map (·.2) = sortD ds := by
      have e := List.map_mergeSort (f := fun x : V × PyData => x.2) (r := PySem.W.dataLe false Prod.snd) (s := PySem.W.dataLe false id) (l := xs.zip ds) (fun _ _ _ _ => rfl)
      unfold sortD
      rw [e, zip_snd hlen]
    refine q w1 p _ (sortD ds) H1 S1 e1 r1 hn ?_ ?_ t1
    · rw [← hsnd]
      exact dp_unzip fun p hp => zip_dp hd p (List.mem_mergeSort.mp hp)
    · unfold sortD
      rw [List.length_mergeSort]
      exact hz
  · exact t1.elim
end L3

namespace L3
open PySem PySem.Spec PyProof.Rows L2
/-! ### < and <= of data of one shape -/
def LtOk (d e : PyData) : Prop := PySem.W.alike d e = true ∧ d ≠ .none ∧ d.depth ≤ 60
def rLtD3 : R3 := fun x y S Q => match x, y with
  | .p (.int i), .p (.int j) => Q (.p (.bool (decide (i < j)))) S
  | .p d, .p e => LtOk d e ∧ Q (.p (.bool (PySem.W.dataLt d e))) S
  | _, _ => False
theorem op_ltD {X : Cx} (hu : X.A.units + 64 < cLine) : OpR X (compareOp .Lt) (fun x y H Q => ∃ d e, Dp X.K H x d ∧ Dp X.K H y e ∧ LtOk d e ∧ Q (.bl (PySem.W.dataLt d e)) H) := by
  intro pins s σ H x y v u Q I rx ry h
  obtain ⟨d, e, hd, he, ⟨h1, h2, h3⟩, q⟩ := h
  obtain ⟨as, r1⟩ := Dp.reads I d x v hd rx
  obtain ⟨bs, r2⟩ := Dp.reads I e y u he ry
  exact PySem.W.rcLt_alike d e X.A s v u as bs r1 r2 h1 h2 (by omega) X.prog X.w X.xe _ ⟨.bl _, H, I, rfl, q⟩
theorem oq_ltD {X : Cx} (hu : X.A.units + 64 < cLine) : OQ X (compareOp .Lt) rLtD3 := opq (op_lt.or (op_ltD hu)) fun w S d e x y H Q R r0 p1 p2 t q => by
  unfold rLtD3 at t
  split at t
  · exact .inl ⟨_, _, dp_int p1, dp_int p2, q.bl r0 t⟩
  · exact .inr ⟨_, _, dp_mono r0.sub _ _ p1, dp_mono r0.sub _ _ p2, t.1, q.bl r0 t.2⟩
  · exact t.elim
end L3

namespace L3
open PySem PySem.Spec PyProof.Rows L2
/-! ### list(range(..)), tuple(range(..)), range with a step -/
theorem dp_rg {K : PySem.W.Frag} {h : Hp} (a b : Int) : DpAll K h (rgV a b) (rng a (b - a).toNat) := by
  unfold rgV rng
  induction List.range (b - a).toNat with
  | nil => exact .nil
  | cons x xs ih => exact .cons (.int _) ih
def tRgA3 (te : TE3) (k : Int → Int → S3 → Prop) : E3 → S3 → Prop := fun env S => te env S fun x S1 => match x with
  | .p (.int n) => (0 ≤ n ∧ n ≤ 16777216) ∧ k 0 n S1
  | _ => False
def tRgB3 (ta tb : TE3) (k : Int → Int → S3 → Prop) : E3 → S3 → Prop := fun env S => ta env S fun x S1 => tb env S1 fun y S2 => match x, y with
  | .p (.int a), .p (.int b) => (0 ≤ a ∧ a ≤ 16777216 ∧ 0 ≤ b ∧ b ≤ 16777216) ∧ k a b S2
  | _, _ => False
def tLstRgA (te : TE3) : TN3 := fun env S Q => tRgA3 te (fun a b S1 => Q (rng a (b - a).toNat) S1) env S
def tLstRgB (ta tb : TE3) : TN3 := fun env S Q => tRgB3 ta tb (fun a b S1 => Q (rng a (b - a).toNat) S1) env S
def tTupRgA (te : TE3) : TE3 := fun env S Q => tRgA3 te (fun a b S1 => Q (.p (.tuple (rng a (b - a).toNat))) S1) env S
def tTupRgB (ta tb : TE3) : TE3 := fun env S Q => tRgB3 ta tb (fun a b S1 => Q (.p (.tuple (rng a (b - a).toNat))) S1) env S
section
variable {X : Cx} {a b : Expr} {ta tb : TE3} {p p2 pos pos2 : Pos}
theorem qn_listRgA (hc : X.calm = true) (hg : Gl X "list") (hm : X.mg "list" = none) (hg2 : Gl X "range") (hm2 : X.mg "range" = none) (ha : QE X a ta) (na : starEach [a] X.env = (false, eval a X.env) :: starEach [] X.env := by rfl)
    (nb : starEach [.Call (.Name "range" p2) [a] [] pos2] X.env = (false, eval (.Call (.Name "range" p2) [a] [] pos2) X.env) :: starEach [] X.env := by rfl) :
    QN X (.Call (.Name "list" p) [.Call (.Name "range" p2) [a] [] pos2] [] pos) (tLstRgA ta) := L2.PE.imp (pe_listRg hc hg hm (prg_1 hg2 hm2 ha na) nb) fun σ H R ⟨w, env, S, Q, r0, en, t, q⟩ => by
  have hz : sizeLine = 16777216 := sizeLine_eq
  refine ⟨w, env, S, _, r0, en, t, fun w1 v d H1 S1 e1 r1 p1 t1 => ?_⟩
  split at t1
  · rename_i n
    obtain ⟨⟨h0, h1⟩, t1⟩ := t1
    refine ⟨n, dp_int p1, RgOk.of_le (by omega) h1 (by omega) h0, fun l hn => ?_⟩
    exact q w1 l _ _ H1 S1 e1 r1 hn (dp_rg 0 n) (by rw [rng_len]; omega) t1
  · exact t1.elim
theorem qn_listRgB (hc : X.calm = true) (hg : Gl X "list") (hm : X.mg "list" = none) (hg2 : Gl X "range") (hm2 : X.mg "range" = none) (ha : QE X a ta) (hb : QE X b tb)
    (na : starEach [a, b] X.env = (false, eval a X.env) :: starEach [b] X.env := by rfl) (nab : starEach [b] X.env = (false, eval b X.env) :: starEach [] X.env := by rfl) (hpb : (backTo pos2 (starEach [b] X.env)).any (·.1) = false := by rfl)
    (nb : starEach [.Call (.Name "range" p2) [a, b] [] pos2] X.env = (false, eval (.Call (.Name "range" p2) [a, b] [] pos2) X.env) :: starEach [] X.env := by rfl) :
    QN X (.Call (.Name "list" p) [.Call (.Name "range" p2) [a, b] [] pos2] [] pos) (tLstRgB ta tb) := L2.PE.imp (pe_listRg hc hg hm (prg_2 hg2 hm2 ha hb na nab hpb) nb) fun σ H R ⟨w, env, S, Q, r0, en, t, q⟩ => by
  have hz : sizeLine = 16777216 := sizeLine_eq
  refine ⟨w, env, S, _, r0, en, t, fun w1 v d H1 S1 e1 r1 p1 t1 => ?_⟩
  refine ⟨w1, env, S1, _, r1, en.mono e1, t1, fun w2 u e H2 S2 e2 r2 p2 t2 => ?_⟩
  split at t2
  · rename_i m n
    obtain ⟨⟨h0, h1, h2, h3⟩, t2⟩ := t2
    refine ⟨m, n, dp_int (p1.mono e2), dp_int p2, RgOk.of_le h0 h3 h1 h2, fun l hn => ?_⟩
    exact q w2 l _ _ H2 S2 (e1.trans e2) r2 hn (dp_rg m n) (by rw [rng_len]; omega) t2
  · exact t2.elim
theorem qe_tupRgA (hc : X.calm = true) (hg : Gl X "tuple") (hm : X.mg "tuple" = none) (hg2 : Gl X "range") (hm2 : X.mg "range" = none) (ha : QE X a ta) (na : starEach [a] X.env = (false, eval a X.env) :: starEach [] X.env := by rfl)
    (nb : starEach [.Call (.Name "range" p2) [a] [] pos2] X.env = (false, eval (.Call (.Name "range" p2) [a] [] pos2) X.env) :: starEach [] X.env := by rfl) :
    QE X (.Call (.Name "tuple" p) [.Call (.Name "range" p2) [a] [] pos2] [] pos) (tTupRgA ta) := L2.PE.imp (pe_tupRg hc hg hm (prg_1 hg2 hm2 ha na) nb) fun σ H R ⟨w, env, S, Q, r0, en, t, q⟩ => by
  have hz : sizeLine = 16777216 := sizeLine_eq
  refine ⟨w, env, S, _, r0, en, t, fun w1 v d H1 S1 e1 r1 p1 t1 => ?_⟩
  split at t1
  · rename_i n
    obtain ⟨⟨h0, h1⟩, t1⟩ := t1
    exact ⟨n, dp_int p1, RgOk.of_le (by omega) h1 (by omega) h0, (q.mono e1).tup r1 (dp_rg 0 n) (by rw [rng_len]; omega) t1⟩
  · exact t1.elim
theorem qe_tupRgB (hc : X.calm = true) (hg : Gl X "tuple") (hm : X.mg "tuple" = none) (hg2 : Gl X "range") (hm2 : X.mg "range" = none) (ha : QE X a ta) (hb : QE X b tb)
    (na : starEach [a, b] X.env = (false, eval a X.env) :: starEach [b] X.env := by rfl) (nab : starEach [b] X.env = (false, eval b X.env) :: starEach [] X.env := by rfl) (hpb : (backTo pos2 (starEach [b] X.env)).any (·.1) = false := by rfl)
    (nb : starEach [.Call (.Name "range" p2) [a, b] [] pos2] X.env = (false, eval (.Call (.Name "range" p2) [a, b] [] pos2) X.env) :: starEach [] X.env := by rfl) :
    QE X (.Call (.Name "tuple" p) [.Call (.Name "range" p2) [a, b] [] pos2] [] pos) (tTupRgB ta tb) := L2.PE.imp (pe_tupRg hc hg hm (prg_2 hg2 hm2 ha hb na nab hpb) nb) fun σ H R ⟨w, env, S, Q, r0, en, t, q⟩ => by
  have hz : sizeLine = 16777216 := sizeLine_eq
  refine ⟨w, env, S, _, r0, en, t, fun w1 v d H1 S1 e1 r1 p1 t1 => ?_⟩
  refine ⟨w1, env, S1, _, r1, en.mono e1, t1, fun w2 u e H2 S2 e2 r2 p2 t2 => ?_⟩
  split at t2
  · rename_i m n
    obtain ⟨⟨h0, h1, h2, h3⟩, t2⟩ := t2
    exact ⟨m, n, dp_int (p1.mono e2), dp_int p2, RgOk.of_le h0 h3 h1 h2, ((q.mono e1).mono e2).tup r2 (dp_rg m n) (by rw [rng_len]; omega) t2⟩
  · exact t2.elim
end
end L3

/-! ### t[::-1] of a tuple, xs[::-1] of a list -/
namespace L3
open PySem PySem.Spec PyProof.Rows L2
section
variable {prog : Program} {w : World} {A : Around} {E : Value → Shared → Prop} {s : Shared}
theorem sliceApplied_rev {sl : Addr} {vl vu vs : Value} {n : Nat} {Q : Int × Int × Nat → Shared → Prop} (hs : s.heap.IsSliceOf sl vl vu vs) (pl : IsPart vl none) (pu : IsPart vu none) (ps : IsPart vs (some (-1)))
    (h : Q ((n : Int) - 1, -1, n) s) : wpAny (model prog w) A (Builtin.Slice.sliceApplied (.ref sl) (pure (n : Int))) Q E s := by
  obtain ⟨os, hos, hcs, hds⟩ := id hs
  unfold Builtin.Slice.sliceApplied Builtin.Slice.sliceFields
  refine wpAny_bind (wpAny_bind (wpAny_field hos hds (x := vl) rfl (wpAny_bind (wpAny_field hos hds (x := vu) rfl (wpAny_bind (wpAny_field hos hds (x := vs) rfl (wpAny_pure ?_)))))))
  refine wpAny_bind (HT.slicePart_ ps ?_)
  show wpAny _ _ (if ((-1 : Int) == 0) = true then _ else _) _ _ s
  rw [if_neg (by decide)]
  refine wpAny_bind (HT.slicePart_ pl (wpAny_bind (HT.slicePart_ pu (wpAny_bind (wpAny_pure ?_)))))
  show wpAny _ _ (match Builtin.Slice.sliceAdjust none none (-1) (n : Int) with | (lo, hi) => pure (lo, (-1 : Int), Builtin.Slice.slicePlaces lo hi (-1))) _ _ s
  have e1 : Builtin.Slice.sliceAdjust none none (-1) (n : Int) = ((n : Int) - 1, -1) := rfl
  rw [e1]
  have e2 : Builtin.Slice.slicePlaces ((n : Int) - 1) (-1) (-1) = n := by
    unfold Builtin.Slice.slicePlaces
    rw [if_neg (by decide)]
    by_cases hn : (n : Int) - 1 > -1
    · rw [if_pos hn, show (-(-1) : Int) = 1 by decide, Int.ediv_one]
      omega
    · rw [if_neg hn]
      omega
  show wpAny _ _ (pure ((n : Int) - 1, (-1 : Int), Builtin.Slice.slicePlaces ((n : Int) - 1) (-1) (-1))) _ _ s
  rw [e2]
  exact wpAny_pure h
theorem fm_congr {α β : Type} {f g : α → Option β} : ∀ {l : List α}, (∀ k ∈ l, f k = g k) → l.filterMap f = l.filterMap g
  | [], _ => rfl
  | x :: l, h => by
    rw [List.filterMap_cons, List.filterMap_cons, h x List.mem_cons_self, fm_congr fun k hk => h k (List.mem_cons_of_mem _ hk)]
theorem rev_pick {α : Type} (xs : Array α) : (List.range xs.size).filterMap (fun (k : Nat) => xs[(((xs.size : Int) - 1) + (k : Int) * (-1)).toNat]?) = xs.toList.reverse := by
  have h : (List.range xs.size).filterMap (fun (k : Nat) => xs[(((xs.size : Int) - 1) + (k : Int) * (-1)).toNat]?) = ((List.range xs.size).map fun k => xs.size - 1 - k).filterMap (xs[·]?) := by
    rw [List.filterMap_map]
    refine fm_congr fun k hk => ?_
    have hk' := List.mem_range.mp hk
    show xs[_]? = xs[xs.size - 1 - k]?
    have e : (((xs.size : Int) - 1) + (k : Int) * (-1)).toNat = xs.size - 1 - k := by omega
    rw [e]
  rw [h]
  have e : ((List.range xs.size).map fun k => xs.size - 1 - k) = (List.range xs.size).reverse := by
    refine List.ext_getElem (by simp) fun i h1 h2 => ?_
    simp
  rw [e, List.filterMap_reverse, PySem.W.krv_all]
theorem getItem_tuple_rev {t sl : Addr} {items : Array Value} {vl vu vs : Value} {Q : Value → Shared → Prop} (ht : IsTup s.heap t items) (hs : s.heap.IsSliceOf sl vl vu vs) (pl : IsPart vl none) (pu : IsPart vu none) (ps : IsPart vs (some (-1)))
    (h : Q (.ref s.heap.objs.size) { s with heap := s.heap.push { cls := .type "tuple", data := .seq items.toList.reverse.toArray } })
    (hsz : items.size ≤ sizeLine) : wpAny (model prog w) A (getItem (.ref t) (.ref sl)) Q E s := by
  have htake : sizeOk (.seq items.toList.reverse.toArray) := by
    show items.toList.reverse.toArray.size ≤ sizeLine
    rw [List.size_toArray, List.length_reverse, Array.length_toList]
    exact hsz
  obtain ⟨os, hos, hcs, hds⟩ := id hs
  have hTs : s.TypeIs (.ref sl) "slice" := ⟨os, hos, hcs⟩
  unfold getItem
  try with_reducible refine wpAny_holding ?_
  first | refine wpAny_bind (wpAny_pure ?_) | skip
  refine wpAny_bind (wpAny_sequenceKey ht.typeIs (by decide) ?_)
  refine wpAny_bind (wpAny_callSpecial?_slot (name := Str.ofString "__getitem__") ht.typeIs PyProof.Rows.slot_tuple_getitem
    (wpAny_call_entry PyProof.Rows.slot_tuple_getitem ht.typeIs PyProof.Rows.entry_tuple_getitem ?_ (PyProof.Rows.args_tuple_getitem _ _)))
  show wpAny _ _ (Builtin.Tuple.tupleItemsOf (.ref t) >>= _) _ _ s
  refine wpAny_bind (tupleItemsOf_ ht ?_)
  refine wpAny_bind (wpAny_typeOf hTs ?_)
  rw [if_pos (by decide)]
  refine wpAny_bind (sliceApplied_rev hs pl pu ps ?_)
  have hno : ¬ ((((items.size : Int) - 1) == 0 && (-1 : Int) == 1 && items.size == items.size) = true) := by simp
  show wpAny _ _ (if (((items.size : Int) - 1) == 0 && (-1 : Int) == 1 && items.size == items.size) = true then _ else _) _ _ s
  rw [if_neg hno, rev_pick]
  first
    | exact wpAny_bind (m := Builtin.Tuple.tupleExact _) (wpAny_newObj_type (wpAny_pure ⟨_, rfl, wpAny_pure h⟩) htake)
    | exact wpAny_bind (m := Builtin.Tuple.tupleExact _) (wpAny_newObj_type (wpAny_bind (wpAny_pure (wpAny_pure ⟨_, rfl, wpAny_pure h⟩))) htake)
    | exact wpAny_bind (wpAny_bind (m := Builtin.Tuple.tupleExact _) (wpAny_newObj_type (wpAny_pure (wpAny_pure ⟨_, rfl, wpAny_pure h⟩)) htake))
    | exact wpAny_bind (wpAny_bind (m := Builtin.Tuple.tupleExact _) (wpAny_newObj_type (wpAny_pure ⟨_, rfl, wpAny_pure h⟩) htake))
end
def tRevA (K : PySem.W.Frag) (te : TE) : TE := fun σ H Q => te σ H fun x H1 => ∃ a xs, x = .ref a ∧ ((SqL K H1 a xs ∧ ∀ p, H1 p = none → Q (.ref p) (upd H1 p (.lst xs.reverse))) ∨ (SqT K H1 a xs ∧ ∀ p, H1 p = none → Q (.ref p) (upd H1 p (.tup xs.reverse))))
theorem pe_revA {X : Cx} {e : Expr} {te : TE} {k : Nat} {p1 p2 p3 pos : Pos} (he : PE X e te) : PE X (.Subscript e (.Slice none none (some (.UnaryOp .USub (.Constant (.int 1) k p1) p2)) p3) pos) (tRevA X.K te) := by
  refine ⟨fun pins s σ H Q I h => ?_⟩
  refine Subscript_ (thn (he.run pins s σ H _ I h) fun v s1 ⟨x, H1, I1, r1, q1⟩ => ?_)
  obtain ⟨a, xs, ex, q⟩ := q1
  subst ex
  cases r1
  have hst : PO X (some (.UnaryOp .USub (.Constant (.int 1) k p1) p2)) (tPart (tUn (rU fun i => .int (-i)) (tC (.int 1)))) := po_some (pe_un un_neg pe_int)
  refine wpAny_Slice (thn (po_none.run pins s1 σ H1 (fun o H2 => o = none ∧ H2 = H1) I1 ⟨rfl, rfl⟩) fun vl s2 ⟨l, H2, I2, pl, el, e2⟩ => ?_)
  subst el e2
  refine thn (po_none.run pins s2 σ H2 (fun o H3 => o = none ∧ H3 = H2) I2 ⟨rfl, rfl⟩) fun vu s3 ⟨u, H3, I3, pu, eu, e3⟩ => ?_
  subst eu e3
  refine thn (hst.run pins s3 σ H3 (fun o H4 => o = some (-1) ∧ H4 = H3) I3 ⟨1, rfl, -1, rfl, rfl, rfl⟩) fun vs s4 ⟨o, H4, I4, ps, eo, e4⟩ => ?_
  subst eo e4
  have I5 : L2.Inv X pins σ H4 { s4 with heap := s4.heap.push { cls := .type "slice", data := .fields #[vl, vu, vs] } } := I4.kept (t' := s4.toks) fun b ob q => Heap.get?_push_of_some _ q
  rcases q with ⟨hx, q⟩ | ⟨hx, q⟩
  · obtain ⟨its, r, ht, hz⟩ := I5.list hx
    have hlen := r.length
    show wpAny (model X.prog X.w) X.A (subscriptTail e (.Slice none none (some (.UnaryOp .USub (.Constant (.int 1) k p1) p2)) p3) (.ref a) (.ref s4.heap.objs.size)) (EP X pins σ Q) X.xe { s4 with heap := s4.heap.push { cls := .type "slice", data := .fields #[vl, vu, vs] } }
    refine tail_any (ops := [.ref a, .ref s4.heap.objs.size]) ht.isList.typeIs (PySem.slot_list_getitem.lookup) ?_ (by with_unfolding_all rfl)
    refine wpAny_getItem_list_slice ht.isList (Heap.IsSliceOf.new _ vl vu vs) pl pu ps (by decide) ?_ (by rw [List.size_toArray]; omega)
    rw [PySem.W.krv_pick]
    refine ⟨.ref _, _, I5.laid (t' := s4.toks) (o := .lst xs.reverse) (fun b ob q => Heap.get?_push_of_some _ q) (Nat.le_refl _) ?_, rfl, q _ (I5.hok.fresh (Nat.le_refl _))⟩
    exact ⟨by rw [List.length_reverse]; exact hz, _, 0, r.reverse, Heap.get?_push_size _ rfl⟩
  · obtain ⟨its, r, ht, hz⟩ := I5.tuple hx
    have hlen := r.length
    show wpAny (model X.prog X.w) X.A (subscriptTail e (.Slice none none (some (.UnaryOp .USub (.Constant (.int 1) k p1) p2)) p3) (.ref a) (.ref s4.heap.objs.size)) (EP X pins σ Q) X.xe { s4 with heap := s4.heap.push { cls := .type "slice", data := .fields #[vl, vu, vs] } }
    refine tail_any (ops := [.ref a, .ref s4.heap.objs.size]) ht.typeIs (PyProof.Rows.slot_tuple_getitem.lookup) ?_ (by with_unfolding_all rfl)
    refine getItem_tuple_rev ht (Heap.IsSliceOf.new _ vl vu vs) pl pu ps ?_ (by rw [List.size_toArray]; omega)
    refine ⟨.ref _, _, I5.laid (t' := s4.toks) (o := .tup xs.reverse) (fun b ob q => Heap.get?_push_of_some _ q) (Nat.le_refl _) ?_, rfl, q _ (I5.hok.fresh (Nat.le_refl _))⟩
    exact ⟨by rw [List.length_reverse]; exact hz, _, r.reverse, IsTup.new _ _⟩
/-- x[::-1]: of a tuple; of a list (the new one changes no more) -/
def tRev3 (te : TE3) : TE3 := fun env S Q => te env S fun x S1 => match x with
  | .p (.tuple ds) => Q (.p (.tuple ds.reverse)) S1
  | d => match lst3 S1 d with
    | some ds => Q (.p (.list ds.reverse)) S1
    | none => False
theorem qe_rev {X : Cx} {e : Expr} {te : TE3} {k : Nat} {p1 p2 p3 pos : Pos} (he : QE X e te) : QE X (.Subscript e (.Slice none none (some (.UnaryOp .USub (.Constant (.int 1) k p1) p2)) p3) pos) (tRev3 te) :=
  (pe_revA he).imp fun σ H R ⟨w, env, S, Q, r0, en, t, q⟩ => by
    refine ⟨w, env, S, _, r0, en, t, fun w1 v d H1 S1 e1 r1 p1 t1 => ?_⟩
    split at t1
    · obtain ⟨a, xs, rfl, hq, ha⟩ := dp_tup_ref p1
      exact ⟨a, xs, rfl, .inr ⟨Same.sqT r1.sub hq, (q.mono e1).tup r1 (DpAll.reverse ha) (by rw [List.length_reverse]; exact len_tup r1 p1) t1⟩⟩
    · split at t1
      · rename_i ds h1
        obtain ⟨a, xs, rfl, hq, ha, hlen⟩ := lst3_low r1 p1 h1
        exact ⟨a, xs, rfl, .inl ⟨hq, (q.mono e1).lst r1 (DpAll.reverse ha) (by rw [List.length_reverse]; exact hlen) t1⟩⟩
      · exact t1.elim
end L3

namespace L3
open PySem PySem.Spec PyProof.Rows L2
/-! ### own dicts with int and str keys -/
def key3 : PyData → Option Key
  | .int i => some (.inl i)
  | .str x => some (.inr x)
  | _ => none
def valD (kvs : List (Key × D)) (k : Key) : Option D := (kvs.find? fun kv => decide (kv.1 = k)).map (·.2)
def putD (kvs : List (Key × D)) (k : Key) (v : D) : List (Key × D) :=
  if (kvs.any fun kv => decide (kv.1 = k)) = true then kvs.map (fun kv => if kv.1 = k then (kv.1, v) else kv) else kvs ++ [(k, v)]
def dik3 (S : S3) : D → Option (Nat × List (Key × D))
  | .loc n => match S[n]? with
    | some (some (.dik kvs)) => some (n, kvs)
    | _ => none
  | _ => none
abbrev KvR (K : PySem.W.Frag) (w : W3) (n : Nat) : Key × V → Key × D → Prop := fun p q => p.1 = q.1 ∧ RepD K w p.2 q.2 ∧ under n q.2
theorem key3_low {K : PySem.W.Frag} {w : W3} {v : V} {d : PyData} {k : Key} (p : RepD K w v (.p d)) (h : key3 d = some k) : v = kV k := by
  cases d <;> simp only [key3] at h <;> first | cases h | skip
  · exact dp_int p
  · exact dp_str p
theorem pv_val {K : PySem.W.Frag} {w : W3} {n : Nat} {k : Key} : ∀ {kxs : List (Key × V)} {kvs : List (Key × D)}, Paired (KvR K w n) kxs kvs → (valD kvs k = none ∧ valV kxs k = none) ∨ ∃ d v, valD kvs k = some d ∧ valV kxs k = some v ∧ RepD K w v d
  | _, _, .nil => .inl ⟨rfl, rfl⟩
  | _, _, .cons (a := p) (b := q) (l₁ := xs) (l₂ := ys) r rs => by
    by_cases e : q.1 = k
    · refine .inr ⟨q.2, p.2, ?_, ?_, r.2.1⟩
      · simp [valD, List.find?_cons, e]
      · simp [valV, List.find?_cons, r.1.trans e]
    · have e' : ¬ p.1 = k := fun z => e (r.1 ▸ z)
      have a : valD (q :: ys) k = valD ys k := by simp only [valD, List.find?_cons, e, decide_false]
      have b : valV (p :: xs) k = valV xs k := by simp only [valV, List.find?_cons, e', decide_false]
      rw [a, b]
      exact pv_val rs
theorem pv_any {K : PySem.W.Frag} {w : W3} {n : Nat} {k : Key} : ∀ {kxs : List (Key × V)} {kvs : List (Key × D)}, Paired (KvR K w n) kxs kvs → (kxs.any fun kv => decide (kv.1 = k)) = kvs.any fun kv => decide (kv.1 = k)
  | _, _, .nil => rfl
  | _, _, .cons r rs => by rw [List.any_cons, List.any_cons, r.1, pv_any rs]
theorem pv_map {K : PySem.W.Frag} {w : W3} {n : Nat} {k : Key} {v : V} {d : D} (hd : RepD K w v d ∧ under n d) : ∀ {kxs : List (Key × V)} {kvs : List (Key × D)}, Paired (KvR K w n) kxs kvs → Paired (KvR K w n) (kxs.map fun kv => if kv.1 = k then (kv.1, v) else kv) (kvs.map fun kv => if kv.1 = k then (kv.1, d) else kv)
  | _, _, .nil => .nil
  | _, _, .cons (a := p) (b := q) r rs => by
    rw [List.map_cons, List.map_cons]
    refine .cons ?_ (pv_map hd rs)
    by_cases e : q.1 = k
    · rw [if_pos e, if_pos (r.1.trans e)]
      exact ⟨r.1, hd⟩
    · rw [if_neg e, if_neg fun z => e (r.1 ▸ z)]
      exact r
theorem pv_app {K : PySem.W.Frag} {w : W3} {n : Nat} : ∀ {kxs lxs : List (Key × V)} {kvs lvs : List (Key × D)}, Paired (KvR K w n) kxs kvs → Paired (KvR K w n) lxs lvs → Paired (KvR K w n) (kxs ++ lxs) (kvs ++ lvs)
  | _, _, _, _, .nil, s => s
  | _, _, _, _, .cons r rs, s => .cons r (pv_app rs s)
theorem pv_put {K : PySem.W.Frag} {w : W3} {n : Nat} {k : Key} {v : V} {d : D} {kxs : List (Key × V)} {kvs : List (Key × D)} (p : Paired (KvR K w n) kxs kvs) (hd : RepD K w v d ∧ under n d) : Paired (KvR K w n) (putK kxs k v) (putD kvs k d) := by
  unfold putK putD
  rw [pv_any p]
  split
  · exact pv_map hd p
  · exact pv_app p (.cons ⟨rfl, hd⟩ .nil)
theorem pv_len {K : PySem.W.Frag} {w : W3} {n : Nat} : ∀ {kxs : List (Key × V)} {kvs : List (Key × D)}, Paired (KvR K w n) kxs kvs → kxs.length = kvs.length
  | _, _, .nil => rfl
  | _, _, .cons _ rs => congrArg (· + 1) (pv_len rs)
theorem dik3_low {K : PySem.W.Frag} {w : W3} {H : Hp} {S : S3} {v : V} {d : D} {n : Nat} {kvs : List (Key × D)} (r : Rel3 K w H S) (p : RepD K w v d) (h : dik3 S d = some (n, kvs)) :
    ∃ a kxs, v = .ref a ∧ d = .loc n ∧ w.al[n]? = some a ∧ S[n]? = some (some (.dik kvs)) ∧ H a = some (.dK kxs) ∧ Paired (KvR K w n) kxs kvs := by
  unfold dik3 at h
  split at h
  · split at h
    · rename_i es hs
      cases h
      obtain ⟨a, ha, rfl⟩ := p
      obtain ⟨_, u, hu, kxs, rfl, hp⟩ := r.live n a _ ha hs
      exact ⟨a, kxs, rfl, rfl, ha, hs, hu, hp⟩
    · cases h
  · cases h
/-- {} -/
def tDNew3 : TE3 := fun _ S Q => Q (.loc S.length) (S ++ [some (.dik [])])
/-- d[k] -/
def tDGet3 (to ti : TE3) : TE3 := fun env S Q => to env S fun o S1 => ti env S1 fun i S2 => match dik3 S2 o, i with
  | some (_, kvs), .p d => (match key3 d with
    | some k => (match valD kvs k with
      | some v => Q v S2
      | none => False)
    | none => False)
  | _, _ => False
/-- d[k] = e -/
def tDPut3 (te to ti : TE3) : TS3 := fun D env S => te env S fun v S1 => to env S1 fun o S2 => ti env S2 fun i S3 => match dik3 S3 o, i with
  | some (n, kvs), .p d => (match key3 d with
    | some k => (kvs.length < 16777216 ∧ under n v) ∧ D.nx env (S3.set n (some (.dik (putD kvs k v))))
    | none => False)
  | _, _ => False
section
variable {X : Cx} {o i e : Expr} {to ti te : TE3} {pos pos' : Pos}
theorem qe_dnew : QE X (.Dict [] [] pos) tDNew3 := L2.PE.imp pe_dnewK fun σ H R ⟨w, env, S, Q, r0, en, t, q⟩ => fun p hn => by
  obtain ⟨r2, e2⟩ := r0.push (u := .dK []) (o := .dik []) hn ⟨[], rfl, .nil⟩
  refine q _ (.ref p) (.loc S.length) _ _ e2 r2 ⟨p, ?_, rfl⟩ t
  show (w.al ++ [p])[S.length]? = some p
  rw [← r0.len, List.getElem?_append_right (Nat.le_refl _)]
  simp
theorem qe_dget (hu : X.A.units + 64 < cLine) (ho : QE X o to) (hi : QE X i ti) (hs : NoSl i) : QE X (.Subscript o i pos) (tDGet3 to ti) := L2.PE.imp (pe_dget (by omega) ho hi hs) fun σ H R ⟨w, env, S, Q, r0, en, t, q⟩ => by
  refine ⟨w, env, S, _, r0, en, t, fun w1 v d H1 S1 e1 r1 p1 t1 => ?_⟩
  refine ⟨w1, env, S1, _, r1, en.mono e1, t1, fun w2 u c H2 S2 e2 r2 p2 t2 => ?_⟩
  split at t2
  · rename_i n kvs dd ho'
    split at t2
    · rename_i k hk
      split at t2
      · rename_i x hx
        obtain ⟨a, kxs, rfl, rfl, ha, hs', hH, hp⟩ := dik3_low r2 (p1.mono e2) ho'
        have hy := key3_low p2 hk
        subst hy
        rcases pv_val (k := k) hp with ⟨h1, _⟩ | ⟨d', v', h1, h2, h3⟩
        · rw [hx] at h1; cases h1
        · rw [hx] at h1
          cases h1
          refine ⟨a, v', rfl, ?_, (q.mono (e1.trans e2)).old (d := x) r2 h3 t2⟩
          rw [← h2]
          exact DGet.k hH
      · exact t2.elim
    · exact t2.elim
  · exact t2.elim
theorem qs_dput (hu : X.A.units + 64 < cLine) (he : QE X e te) (ho : QE X o to) (hi : QE X i ti) (hs : swapsWith e (some (.Subscript o i pos')) pos.line X.env = pure false := by rfl) : QS X (.Assign [.Subscript o i pos'] e pos) (tDPut3 te to ti) :=
  L2.PS.imp (ps_dput (by omega) ho hi he hs) fun D σ H ⟨w, env, S, D3, r0, en, t, q⟩ => by
    have hz : sizeLine = 16777216 := sizeLine_eq
    refine ⟨w, env, S, _, r0, en, t, fun w1 v d H1 S1 e1 r1 p1 t1 => ?_⟩
    refine ⟨w1, env, S1, _, r1, en.mono e1, t1, fun w2 u c H2 S2 e2 r2 p2 t2 => ?_⟩
    refine ⟨w2, env, S2, _, r2, (en.mono e1).mono e2, t2, fun w3 z b H3 S3 e3 r3 p3 t3 => ?_⟩
    split at t3
    · rename_i n kvs dd ho'
      split at t3
      · rename_i k hk
        obtain ⟨a, kxs, rfl, rfl, ha, hs', hH, hp⟩ := dik3_low r3 (p2.mono e3) ho'
        have hy := key3_low p3 hk
        subst hy
        have hl := pv_len hp
        have p1' : RepD X.K w3 v d := (p1.mono e2).mono e3
        obtain ⟨⟨t31, t32⟩, t3⟩ := t3
        refine ⟨a, _, rfl, DPut.k hH (by omega), ?_⟩
        exact q.nx w3 σ _ env _ ((e1.trans e2).trans e3) (r3.put (o' := .dik (putD kvs k d)) ha hs' ⟨_, rfl, pv_put hp ⟨p1', t32⟩⟩) (((en.mono e1).mono e2).mono e3) t3
      · exact t3.elim
    · exact t3.elim
end
/-- {k: v, ..} -/
def keyD : D → Option Key
  | .p d => key3 d
  | _ => none
def keysD : List (D × D) → Option (List (Key × D))
  | [] => some []
  | (k, v) :: r => match keyD k, keysD r with
    | some k, some kvs => some ((k, v) :: kvs)
    | _, _ => none
def mergeD (kvs more : List (Key × D)) : List (Key × D) := more.foldl (fun acc kv => putD acc kv.1 kv.2) kvs
def tPairs3 : List (TE3 × TE3) → E3 → S3 → (List (D × D) → S3 → Prop) → Prop
  | [], _, S, Q => Q [] S
  | (tk, tv) :: r, env, S, Q => tk env S fun x S1 => tv env S1 fun y S2 => tPairs3 r env S2 fun ps S3 => Q ((x, y) :: ps) S3
def tDLit3 (trs : List (TE3 × TE3)) : TE3 := fun env S Q => tPairs3 trs env S fun ps S1 => match keysD ps with
  | some kvs => kvs.length ≤ 15 ∧ Q (.loc S1.length) (S1 ++ [some (.dik (mergeD [] kvs))])
  | none => False
def lowTrs (K : PySem.W.Frag) (trs : List (TE3 × TE3)) : List (TE × TE) := trs.map fun p => (low K p.1, low K p.2)
def PrR (K : PySem.W.Frag) (w : W3) : List (V × V) → List (D × D) → Prop := Paired fun p q => RepD K w p.1 q.1 ∧ RepD K w p.2 q.2
theorem PrR.mono {K : PySem.W.Frag} {w w' : W3} (e : Ex3 w w') {ps : List (V × V)} {qs : List (D × D)} (h : PrR K w ps qs) : PrR K w' ps qs := Paired.mapP h fun p q z => ⟨z.1.mono e, z.2.mono e⟩
theorem pairs_low {K : PySem.W.Frag} {σ : L2.St} : ∀ (trs : List (TE3 × TE3)) (w : W3) (env : E3) (S : S3) (H : Hp) (Q : List (D × D) → S3 → Prop) (R : List (V × V) → Hp → Prop), Rel3 K w H S → EnvR K w σ env → tPairs3 trs env S Q →
    (∀ w' ps qs H' S', Ex3 w w' → Rel3 K w' H' S' → PrR K w' ps qs → Q qs S' → R ps H') → tPairs (lowTrs K trs) σ H R
  | [], w, env, S, H, Q, R, r, en, t, h => h w [] [] H S (Ex3.refl _) r .nil t
  | (tk, tv) :: trs, w, env, S, H, Q, R, r, en, t, h => by
    refine ⟨w, env, S, _, r, en, t, fun w1 v d H1 S1 e1 r1 p1 t1 => ?_⟩
    refine ⟨w1, env, S1, _, r1, en.mono e1, t1, fun w2 u c H2 S2 e2 r2 p2 t2 => ?_⟩
    refine pairs_low trs w2 env S2 H2 _ _ r2 ((en.mono e1).mono e2) t2 fun w3 ps qs H3 S3 e3 r3 p3 t3 => ?_
    exact h w3 _ _ H3 S3 ((e1.trans e2).trans e3) r3 (.cons ⟨(p1.mono e2).mono e3, p2.mono e3⟩ p3) t3
theorem RepD.under {K : PySem.W.Frag} {w : W3} {v : V} {d : D} {H : Hp} {S : S3} (r : Rel3 K w H S) (h : RepD K w v d) : under S.length d := by
  cases d with
  | p d => trivial
  | exc c => trivial
  | loc m =>
    obtain ⟨a, h1, _⟩ := h
    show m < _
    rw [← r.len]
    exact (List.getElem?_eq_some_iff.mp h1).1
theorem keys_low {K : PySem.W.Frag} {w : W3} {H : Hp} {S : S3} (r : Rel3 K w H S) : ∀ {ps : List (V × V)} {qs : List (D × D)} {kvs : List (Key × D)}, PrR K w ps qs → keysD qs = some kvs → ∃ kxs : List (Key × V), ps = kxs.map (fun kv => (kV kv.1, kv.2)) ∧ Paired (KvR K w S.length) kxs kvs
  | _, _, _, .nil, h => by cases h; exact ⟨[], rfl, .nil⟩
  | _, _, _, .cons (a := p) (b := q) z zs, h => by
    obtain ⟨k, v⟩ := q
    unfold keysD at h
    split at h
    · rename_i k' kvs' h1 h2
      cases h
      obtain ⟨kxs, rfl, hp⟩ := keys_low r zs h2
      have hk : p.1 = kV k' := by
        unfold keyD at h1
        split at h1
        · exact key3_low z.1 h1
        · cases h1
      refine ⟨(k', p.2) :: kxs, ?_, .cons ⟨rfl, z.2, z.2.under r⟩ hp⟩
      rw [List.map_cons, ← hk]
    · cases h
theorem pv_merge {K : PySem.W.Frag} {w : W3} {n : Nat} : ∀ {more : List (Key × D)} {mxs kxs : List (Key × V)} {kvs : List (Key × D)}, Paired (KvR K w n) mxs more → Paired (KvR K w n) kxs kvs → Paired (KvR K w n) (mergeK kxs mxs) (mergeD kvs more)
  | _, _, _, _, .nil, s => s
  | _, _, _, _, .cons (a := p) (b := q) r rs, s => by
    have := pv_put (k := q.1) s r.2
    show Paired (KvR K w n) (mergeK (putK _ p.1 p.2) _) (mergeD (putD _ q.1 q.2) _)
    rw [show p.1 = q.1 from r.1]
    exact pv_merge rs this
abbrev QPs (X : Cx) (pos : Pos) (keys : List (Option Expr)) (values : List Expr) (trs : List (TE3 × TE3)) : Prop := PPs X pos keys values (lowTrs X.K trs)
section
variable {X : Cx} {pos : Pos}
theorem qps_nil : QPs X pos [] [] [] := pps_nil
theorem qps_cons {k v : Expr} {ks : List (Option Expr)} {vs : List Expr} {tk tv : TE3} {trs : List (TE3 × TE3)} (hk : QE X k tk) (hv : QE X v tv) (hr : QPs X pos ks vs trs) : QPs X pos (some k :: ks) (v :: vs) ((tk, tv) :: trs) := pps_cons hk hv hr
theorem qe_dlit {keys : List (Option Expr)} {values : List Expr} {trs : List (TE3 × TE3)} (h : QPs X pos keys values trs) (hall : keys.all (·.isSome) = true := by rfl) (hl : keys.length = values.length := by rfl) (h0 : keys ≠ [] := by decide)
    (h15 : keys.length ≤ 15 := by decide) : QE X (.Dict keys values pos) (tDLit3 trs) := L2.PE.imp (pe_disp h hall hl h0 h15) fun σ H R ⟨w, env, S, Q, r0, en, t, q⟩ => fun p hn => by
  have r1 := r0.pinNew (u := .dK []) hn
  have e01 : Ex0 w ⟨w.al, w.h, (p, .dK []) :: w.pn⟩ := ⟨⟨[], by simp⟩, Same.refl _⟩
  refine pairs_low trs _ env S _ _ _ r1 (en.mono0 e01) t fun w2 ps qs H2 S2 e2 r2 p2 t2 => ?_
  obtain ⟨al2, h2, pn2⟩ := w2
  have hpn : pn2 = (p, .dK []) :: w.pn := e2.pn
  subst hpn
  refine ⟨(r2.pin p _ List.mem_cons_self).1, ?_⟩
  split at t2
  · rename_i kvs hk
    obtain ⟨kxs, rfl, hp⟩ := keys_low r2 p2 hk
    have hln := pv_len hp
    refine ⟨kxs, rfl, by omega, ?_⟩
    obtain ⟨r3, hdn, hup⟩ := r2.unpin
    have hp3 : Paired (KvR X.K ⟨al2, h2, w.pn⟩ S2.length) (mergeK [] kxs) (mergeD [] kvs) := by
      have := pv_merge hp (kxs := []) (kvs := []) .nil
      exact Paired.mapP this fun a b z => ⟨z.1, RepD.mono0 (w := ⟨al2, h2, (p, .dK []) :: w.pn⟩) ⟨⟨[], by simp⟩, Same.refl _⟩ z.2.1, z.2.2⟩
    obtain ⟨r4, e4⟩ := r3.push (a := p) (u := .dK (mergeK [] kxs)) (o := .dik (mergeD [] kvs)) hdn ⟨_, rfl, hp3⟩
    have hH : upd H2 p (.dK (mergeK [] kxs)) = upd (del H2 p) p (.dK (mergeK [] kxs)) := by
      funext b
      by_cases hb : b = p
      · subst hb
        rw [upd_same, upd_same]
      · rw [upd_ne hb, upd_ne hb]
        unfold del
        rw [if_neg hb]
    rw [hH]
    refine q _ (.ref p) (.loc S2.length) _ _ (Ex3.trans (w' := ⟨al2, h2, w.pn⟩) ⟨⟨e2.al, e2.h⟩, rfl⟩ e4) r4 ⟨p, ?_, rfl⟩ t2.2
    show (al2 ++ [p])[S2.length]? = some p
    have := r3.len
    rw [← show al2.length = S2.length from this, List.getElem?_append_right (Nat.le_refl _)]
    simp
  · exact t2.elim
end
section
variable {X : Cx} {o i e : Expr} {to ti te : TE3} {pos pos' : Pos}
/-- k in d, k not in d -/
def tDIn3 (neg : Bool) (ti to : TE3) : TE3 := fun env S Q => ti env S fun i S1 => to env S1 fun o S2 => match dik3 S2 o, i with
  | some (_, kvs), .p d => (match key3 d with
    | some k => Q (.p (.bool (if neg then !(valD kvs k).isSome else (valD kvs k).isSome))) S2
    | none => False)
  | _, _ => False
theorem din_low {K : PySem.W.Frag} {neg : Bool} {σ : L2.St} {H : Hp} {R : VK} (h : low K (tDIn3 neg ti to) σ H R) : low K ti σ H fun y H1 => low K to σ H1 fun x H2 => ∃ a o, x = .ref a ∧ DGet H2 a y o ∧ R (.bl (if neg then !o.isSome else o.isSome)) H2 := by
  obtain ⟨w, env, S, Q, r0, en, t, q⟩ := h
  refine ⟨w, env, S, _, r0, en, t, fun w1 v d H1 S1 e1 r1 p1 t1 => ?_⟩
  refine ⟨w1, env, S1, _, r1, en.mono e1, t1, fun w2 u c H2 S2 e2 r2 p2 t2 => ?_⟩
  split at t2
  · rename_i n kvs dd ho'
    split at t2
    · rename_i k hk
      obtain ⟨a, kxs, rfl, rfl, ha, hs', hH, hp⟩ := dik3_low r2 p2 ho'
      have hy := key3_low (p1.mono e2) hk
      subst hy
      refine ⟨a, _, rfl, DGet.k hH, ?_⟩
      have e : (valV kxs k).isSome = (valD kvs k).isSome := by
        rcases pv_val (k := k) hp with ⟨h1, h2⟩ | ⟨d', v', h1, h2, _⟩ <;> rw [h1, h2] <;> rfl
      rw [e]
      exact (q.mono (e1.trans e2)).bl r2 t2
    · exact t2.elim
  · exact t2.elim
theorem qe_din (hu : X.A.units + 64 < cLine) (hi : QE X i ti) (ho : QE X o to) (h1 : behindInMarks .In o = false := by rfl) : QE X (.Compare i [.In] [o] pos) (tDIn3 false ti to) :=
  L2.PE.imp (pe_cmp (pc_din (by omega) hi ho) h1) fun σ H R h => din_low h
theorem qe_dnotin (hu : X.A.units + 64 < cLine) (hi : QE X i ti) (ho : QE X o to) (h1 : behindInMarks .NotIn o = false := by rfl) : QE X (.Compare i [.NotIn] [o] pos) (tDIn3 true ti to) :=
  L2.PE.imp (pe_cmp (pc_dnotin (by omega) hi ho) h1) fun σ H R h => din_low h
theorem qt_din (hu : X.A.units + 64 < cLine) (hi : QE X i ti) (ho : QE X o to) (h1 : behindInMarks .In o = false := by rfl) : QT X (.Compare i [.In] [o] pos) (tTest3 (tDIn3 false ti to)) :=
  L2.PT.imp (pt_cmp (pc_din (by omega) hi ho) h1) fun σ H R h => test_low (t := tDIn3 false ti to) (t2 := fun σ H R' => low X.K (tDIn3 false ti to) σ H R') (fun R' q => q) h |> fun z => din_low z
theorem qt_dnotin (hu : X.A.units + 64 < cLine) (hi : QE X i ti) (ho : QE X o to) (h1 : behindInMarks .NotIn o = false := by rfl) : QT X (.Compare i [.NotIn] [o] pos) (tTest3 (tDIn3 true ti to)) :=
  L2.PT.imp (pt_cmp (pc_dnotin (by omega) hi ho) h1) fun σ H R h => test_low (t := tDIn3 true ti to) (t2 := fun σ H R' => low X.K (tDIn3 true ti to) σ H R') (fun R' q => q) h |> fun z => din_low z
/-- len of a text, a list, a tuple, a dict of the store -/
def rLenA3 : C3 := fun ds S Q => match ds with
  | [.p (.str z)] => z.length ≤ 16777216 ∧ Q (.p (.int z.length)) S
  | [d] => match dik3 S d with
    | some (_, kvs) => Q (.p (.int kvs.length)) S
    | none => match seq3 S d with
      | some es => Q (.p (.int es.length)) S
      | none => False
  | _ => False
theorem cq_lenA : CQ X (.builtin "len") rLenA3 := CallR.imp (CallR.or (r := lowC X.K rLen3) cq_len call_lenD) fun xs H R ⟨w, S, ds, Q, r0, p1, t, q⟩ => by
  unfold rLenA3 at t
  split at t
  · exact .inl ⟨w, S, _, Q, r0, p1, t, q⟩
  · rename_i d hd
    split at t
    · rename_i n kvs ho'
      obtain ⟨v, rfl, p⟩ := rds1 p1
      obtain ⟨a, kxs, rfl, rfl, ha, hs', hH, hp⟩ := dik3_low r0 p ho'
      refine .inr ⟨a, kxs, rfl, hH, ?_⟩
      rw [pv_len hp]
      exact q.int r0 t
    · refine .inl ⟨w, S, _, Q, r0, p1, ?_, q⟩
      unfold rLen3
      split
      · rename_i z hz
        cases hz
        exact absurd rfl (hd z)
      · rename_i d' _ hz
        cases hz
        exact t
      · rename_i h1 h2
        exact absurd rfl (h2 _)
  · exact t.elim
end
end L3

namespace L3
open PySem PySem.Spec PyProof.Rows L2
/-! ### [..] * n -/
def tRepN3 (ta : TN3) (tb : TE3) : TN3 := fun env S Q => ta env S fun ds S1 => tb env S1 fun k S2 => match k with
  | .p (.int k) => (-4611686018427387904 ≤ k ∧ k ≤ 16777216 ∧ ds.length * k.toNat ≤ 16777216) ∧ Q (rep3 ds k) S2
  | _ => False
section
variable {X : Cx} {a b : Expr} {ta : TN3} {tb : TE3} {pos : Pos}
theorem qn_rep (ha : QN X a ta) (hb : QE X b tb) : QN X (.BinOp a .Mult b pos) (tRepN3 ta tb) := L2.PE.imp (pe_op op_rep ha hb) fun σ H R ⟨w, env, S, Q, r0, en, t, q⟩ => by
  have hz : sizeLine = 16777216 := sizeLine_eq
  refine ⟨w, env, S, _, r0, en, t, fun w1 p xs ds H1 S1 e1 r1 hn ha' hl t1 => ?_⟩
  have hxl := DpAll.length ha'
  obtain ⟨r2, e2⟩ := r1.frz (u := .lst xs) hn (by show xs.length ≤ _; rw [hxl]; exact hl)
  refine ⟨_, env, S1, _, r2, (en.mono e1).mono e2, t1, fun w3 v d H3 S3 e3 r3 p3 t3 => ?_⟩
  split at t3
  · rename_i k
    obtain ⟨⟨h1, h2, h3⟩, t3⟩ := t3
    have hp : H3 p = some (.lst xs) := r3.sub _ _ (e3.h _ _ (upd_same (H := w1.h) (a := p)))
    refine ⟨p, k, xs, rfl, dp_int p3, hp, by omega, by omega, by rw [hxl]; omega, fun p2 hn2 => ?_⟩
    exact q w3 p2 _ (rep3 ds k) H3 S3 ((e1.trans e2).trans e3) r3 hn2 (DpAll.flatten (dpAll_mono (e2.h.trans e3.h) _ _ ha') k.toNat) (by rw [rep3_len]; omega) t3
  · exact t3.elim
end
/-! ### == of lists of the store -/
def data3 (S : S3) : D → Option PyData
  | .p d => some d
  | .loc n => match S[n]? with
    | some (some (.lst ds)) => some (.list ds)
    | _ => none
  | .exc _ _ => none
theorem data3_low {K : PySem.W.Frag} {w : W3} {H : Hp} {S : S3} {v : V} {d : D} {x : PyData} (r : Rel3 K w H S) (p : RepD K w v d) (h : data3 S d = some x) : Dp K H v x := by
  unfold data3 at h
  split at h
  · cases h
    exact dp_mono r.sub _ _ p
  · split at h
    · rename_i es hs
      cases h
      obtain ⟨a, ha, rfl⟩ := p
      obtain ⟨_, u, hu, xs, rfl, hd, hz⟩ := r.live _ a _ ha hs
      exact .lst (.inl (.inl hu)) (dpAll_mono r.sub _ _ hd)
    · cases h
  · cases h
def rEqL3 : R3 := fun x y S Q => match data3 S x, data3 S y with
  | some d, some e => (SeqAt.shaped d = true ∧ SeqAt.shaped e = true) ∧ Q (.p (.bool (PyData.eqv d e))) S
  | _, _ => False
def rNeL3 : R3 := fun x y S Q => match data3 S x, data3 S y with
  | some d, some e => (SeqAt.shaped d = true ∧ SeqAt.shaped e = true) ∧ Q (.p (.bool (!PyData.eqv d e))) S
  | _, _ => False
theorem oq_eqL {X : Cx} (hu : X.A.units + 64 < cLine) : OQ X (compareOp .Eq) rEqL3 := opq (op_eqD hu) fun w S d e x y H Q R r0 p1 p2 t q => by
  unfold rEqL3 at t
  split at t
  · rename_i d' e' h1 h2
    exact ⟨_, _, (data3_low r0 p1 h1).sh t.1.1, (data3_low r0 p2 h2).sh t.1.2, t.1.1, t.1.2, q.bl r0 t.2⟩
  · exact t.elim
theorem oq_neL {X : Cx} (hu : X.A.units + 64 < cLine) : OQ X (compareOp .NotEq) rNeL3 := opq (op_neD hu) fun w S d e x y H Q R r0 p1 p2 t q => by
  unfold rNeL3 at t
  split at t
  · rename_i d' e' h1 h2
    exact ⟨_, _, (data3_low r0 p1 h1).sh t.1.1, (data3_low r0 p2 h2).sh t.1.2, t.1.1, t.1.2, q.bl r0 t.2⟩
  · exact t.elim
/-! ### sorted(set(xs)), xs tuples of ints -/

def tups? : PyData → Option (List Int)
  | .tuple ds => allP int? ds
  | _ => none
theorem tups_inv {d : PyData} {ns : List Int} (h : tups? d = some ns) : d = tupI ns := by
  cases d <;> simp only [tups?] at h <;> first | cases h | skip
  rw [allP_int h]
  rfl
theorem tups_of (ns : List Int) : tups? (tupI ns) = some ns := allP_ints ns
theorem allP_tups : ∀ kss : List (List Int), allP tups? (kss.map tupI) = some kss
  | [] => rfl
  | k :: kss => by
    rw [List.map_cons]
    unfold allP
    rw [tups_of, allP_tups kss]
def tSortSet3 (te : TE3) : TN3 := fun env S Q => te env S fun x S1 => match lst3 S1 x with
  | some ds => match allP tups? ds with
    | some kss => (kss.length < 64 ∧ ∃ (d : Nat) (B : Int), 1 ≤ d ∧ ∀ k ∈ kss, k.length = d ∧ TS.Bd B k) ∧
        ∀ (L : List (List Int)) (B : Int), (∀ k ∈ kss, TS.Bd B k) → (∀ k, k ∈ L ↔ k ∈ kss) → L.Nodup → L.length ≤ kss.length → L.Pairwise (fun q r => TS.code B q ≤ TS.code B r) → Q (L.map tupI) S1
    | none => False
  | none => False
theorem tups_low {K : PySem.W.Frag} {h : Hp} : ∀ {ds : List PyData} {kss : List (List Int)} {xs : List V}, DpAll K h xs ds → allP tups? ds = some kss → ∃ ks : List (Addr × List Int), xs = ks.map (fun p => V.ref p.1) ∧ kss = ks.map (·.2) ∧ ∀ p ∈ ks, SqT K h p.1 (p.2.map V.int)
  | _, _, _, .nil, e => by cases e; exact ⟨[], rfl, rfl, fun p hp => nomatch hp⟩
  | d :: ds, _, _, .cons r rs, e => by
    unfold allP at e
    split at e
    · rename_i k ks' h1 h2
      cases e
      obtain ⟨ks, rfl, rfl, hk⟩ := tups_low rs h2
      rw [tups_inv h1] at r
      obtain ⟨a, ys, rfl, hq, ha⟩ := dp_tup_ref r
      rw [dp_ints ha] at hq
      refine ⟨(a, k) :: ks, rfl, rfl, fun p hp => ?_⟩
      rcases List.mem_cons.mp hp with rfl | hp
      · exact hq
      · exact hk p hp
    · cases e
theorem tups_up {K : PySem.W.Frag} {h : Hp} : ∀ (L : List (Addr × List Int)), (∀ p ∈ L, SqT K h p.1 (p.2.map V.int)) → DpAll K h (L.map fun p => V.ref p.1) ((L.map (·.2)).map tupI)
  | [], _ => .nil
  | p :: L, hk => .cons (.tup (hk p List.mem_cons_self) (dpAll_ints p.2)) (tups_up L fun q hq => hk q (List.mem_cons_of_mem _ hq))
theorem sqT_up {K : PySem.W.Frag} {H : Hp} {a b : Addr} {u : HO} {xs : List V} (hn : H a = none) (h : SqT K H b xs) : SqT K (upd H a u) b xs := Same.sqT (fun c o e => by rw [upd_ne (ne_of_none e hn)]; exact e) h
theorem nodup_len3 {α : Type} [DecidableEq α] : ∀ (l D : List α), l.Nodup → (∀ x ∈ l, x ∈ D) → l.length ≤ D.length
  | [], _, _, _ => Nat.zero_le _
  | x :: l, D, h, hs => by
    obtain ⟨h1, h2⟩ := List.nodup_cons.mp h
    have := nodup_len3 l (D.erase x) h2 fun y hy => (List.mem_erase_of_ne (fun z => h1 (by rw [← z]; exact hy))).mpr (hs y (List.mem_cons_of_mem _ hy))
    rw [List.length_erase_of_mem (hs x List.mem_cons_self)] at this
    have := List.length_pos_of_mem (hs x List.mem_cons_self)
    rw [List.length_cons]
    omega
theorem qn_sortSet {X : Cx} {e : Expr} {te : TE3} {p q pos pos' : Pos} (hc : X.calm = true) (hu : X.A.units + 64 < cLine) (hg : Gl X "sorted") (hm : X.mg "sorted" = none) (hg2 : Gl X "set") (hm2 : X.mg "set" = none) (ha : QE X e te)
    (hs : starEach [e] X.env = (false, eval e X.env) :: starEach [] X.env := by rfl) (hpl : (backTo pos' (starEach [] X.env)).any (·.1) = false := by rfl)
    (hs2 : starEach [.Call (.Name "set" q) [e] [] pos'] X.env = (false, eval (.Call (.Name "set" q) [e] [] pos') X.env) :: starEach [] X.env := by rfl) (hpl2 : (backTo pos (starEach [] X.env)).any (·.1) = false := by rfl) :
    QN X (.Call (.Name "sorted" p) [.Call (.Name "set" q) [e] [] pos'] [] pos) (tSortSet3 te) :=
  L2.PE.imp (pe_callB (cr_sortedT hc) hg hm (by decide +kernel) (pa_cons (pe_callTy (cr_setOfT hc hu) hg2 hm2 (by decide +kernel) (pa_cons ha pa_nil hs) (by decide) (by decide) hs hpl) pa_nil hs2) (by decide) (by decide) hs2 hpl2) fun σ H R ⟨w, env, S, Q, r0, en, t, q⟩ => by
    refine ⟨w, env, S, _, r0, en, t, fun w1 v d H1 S1 e1 r1 p1 t1 => ?_⟩
    split at t1
    rotate_left
    · exact t1.elim
    rename_i ds h1
    split at t1
    rotate_left
    · exact t1.elim
    rename_i kss h2
    obtain ⟨⟨c1, dd, B, c2, c3⟩, t1⟩ := t1
    obtain ⟨a, xs, rfl, hq, hd, hz⟩ := lst3_low r1 p1 h1
    obtain ⟨ks, rfl, rfl, hk⟩ := tups_low hd h2
    have hzl : sizeLine = 16777216 := sizeLine_eq
    rw [List.length_map] at c1
    refine ⟨a, ks, rfl, hq, fun p hp => Same.sqT r1.sub (hk p hp), c1, fun b L hn g1 g2 => ?_⟩
    obtain ⟨r2, e2⟩ := r1.frz (u := SetTO X.prog X.w b L) hn trivial
    refine ⟨b, L, dd, B, rfl, upd_same, fun p hp => sqT_up hn (Same.sqT r1.sub (hk p (g1 p hp))), c2, fun p hp => c3 _ (List.mem_map_of_mem (f := (·.2)) (g1 p hp)), fun L' p' pm nd few pw hn2 => ?_⟩
    have hmem : ∀ p ∈ L', p ∈ ks := fun p hp => g1 p (pm.mem_iff.mp hp)
    have iff : ∀ k, k ∈ L'.map (·.2) ↔ k ∈ ks.map (·.2) := fun k => ⟨fun h => by
      obtain ⟨p, hp, rfl⟩ := List.mem_map.mp h
      exact List.mem_map_of_mem (f := (·.2)) (hmem p hp), fun h => by
      obtain ⟨p, hp, rfl⟩ := List.mem_map.mp h
      obtain ⟨p', hp', e'⟩ := List.mem_map.mp (g2 p hp)
      rw [← e']
      exact List.mem_map_of_mem (f := (·.2)) (pm.mem_iff.mpr hp')⟩
    have hle : (L'.map (·.2)).length ≤ (ks.map (·.2)).length := nodup_len3 _ _ nd fun k hk => (iff k).mp hk
    refine q _ p' _ ((L'.map (·.2)).map tupI) _ S1 (e1.trans e2) r2 hn2 (tups_up L' fun p hp => sqT_up (r1.sub.free hn) (hk p (hmem p hp))) ?_ (t1 _ B (fun k hk => (c3 k hk).2) iff nd hle ?_)
    · simp only [List.length_map]
      omega
    · rw [List.pairwise_map]
      exact pw
end L3
namespace L3
open PySem PySem.Spec PyProof.Rows L2
/-! ### x in a tuple or a list of data -/
section
variable {X : Cx}
theorem op_inT (hu : X.A.units + 65 < cLine) : OpR X (compareOp .In) (fun x y H Q => ∃ d ds, Dp X.K H x d ∧ Dp X.K H y (.tuple ds) ∧ SeqAt.shaped d = true ∧ SeqAt.shaped (.tuple ds) = true ∧ Q (.bl (ds.any fun z => PyData.eqv z d)) H) := by
  intro pins s σ H x y v u Q I rx ry h
  obtain ⟨d, ds, hd, he, sd, se, q⟩ := h
  obtain ⟨as, r1⟩ := Dp.reads I d x v hd rx
  obtain ⟨bs, r2⟩ := Dp.reads I (.tuple ds) y u he ry
  exact SeqAt.in_tuple_reads r2 r1 (SeqAt.canLay_of_shaped se) (SeqAt.canLay_of_shaped sd) (room_in_shaped sd hu) ⟨.bl _, H, I, rfl, q⟩
theorem op_notInT (hu : X.A.units + 65 < cLine) : OpR X (compareOp .NotIn) (fun x y H Q => ∃ d ds, Dp X.K H x d ∧ Dp X.K H y (.tuple ds) ∧ SeqAt.shaped d = true ∧ SeqAt.shaped (.tuple ds) = true ∧ Q (.bl (!ds.any fun z => PyData.eqv z d)) H) := by
  intro pins s σ H x y v u Q I rx ry h
  obtain ⟨d, ds, hd, he, sd, se, q⟩ := h
  obtain ⟨as, r1⟩ := Dp.reads I d x v hd rx
  obtain ⟨bs, r2⟩ := Dp.reads I (.tuple ds) y u he ry
  exact SeqAt.notIn_tuple_reads r2 r1 (SeqAt.canLay_of_shaped se) (SeqAt.canLay_of_shaped sd) (room_in_shaped sd hu) ⟨.bl _, H, I, rfl, q⟩
def rInA3 (neg : Bool) : R3 := fun x y S Q => match x, y with
  | .p d, .p (.tuple ds) => (SeqAt.shaped d = true ∧ SeqAt.shaped (.tuple ds) = true) ∧ Q (.p (.bool (if neg then !ds.any fun z => PyData.eqv z d else ds.any fun z => PyData.eqv z d))) S
  | x, y => rIn3 neg x y S Q
theorem oq_inA (hu : X.A.units + 65 < cLine) : OQ X (compareOp .In) (rInA3 false) := OpR.imp (OpR.or (opq (r := fun x y S Q => ∃ d ds, x = .p d ∧ y = .p (.tuple ds) ∧ (SeqAt.shaped d = true ∧ SeqAt.shaped (.tuple ds) = true) ∧ Q (.p (.bool (ds.any fun z => PyData.eqv z d))) S) (op_inT hu) fun w S d e x y H Q R r0 p1 p2 t q => by
    obtain ⟨d', ds, rfl, rfl, t1, t2⟩ := t
    exact ⟨_, ds, dp_mono r0.sub _ _ p1, dp_mono r0.sub _ _ p2, t1.1, t1.2, q.bl r0 t2⟩) (oq_in hu)) fun x y H R ⟨w, S, d, e, Q, r0, p1, p2, t, q⟩ => by
  unfold rInA3 at t
  split at t
  · exact .inl ⟨w, S, _, _, Q, r0, p1, p2, ⟨_, _, rfl, rfl, t⟩, q⟩
  · exact .inr ⟨w, S, _, _, Q, r0, p1, p2, t, q⟩
theorem oq_notinA (hu : X.A.units + 65 < cLine) : OQ X (compareOp .NotIn) (rInA3 true) := OpR.imp (OpR.or (opq (r := fun x y S Q => ∃ d ds, x = .p d ∧ y = .p (.tuple ds) ∧ (SeqAt.shaped d = true ∧ SeqAt.shaped (.tuple ds) = true) ∧ Q (.p (.bool (!ds.any fun z => PyData.eqv z d))) S) (op_notInT hu) fun w S d e x y H Q R r0 p1 p2 t q => by
    obtain ⟨d', ds, rfl, rfl, t1, t2⟩ := t
    exact ⟨_, ds, dp_mono r0.sub _ _ p1, dp_mono r0.sub _ _ p2, t1.1, t1.2, q.bl r0 t2⟩) (oq_notin hu)) fun x y H R ⟨w, S, d, e, Q, r0, p1, p2, t, q⟩ => by
  unfold rInA3 at t
  split at t
  · exact .inl ⟨w, S, _, _, Q, r0, p1, p2, ⟨_, _, rfl, rfl, t⟩, q⟩
  · exact .inr ⟨w, S, _, _, Q, r0, p1, p2, t, q⟩
end
end L3
theorem L2.Room.un65 {k : Nat} {A : PySem.Around} (r : L2.Room k A) : A.units + 65 < PySem.cLine := by
  have := r.un
  omega

/-! ### enumerate(tuple), enumerate(reversed(tuple)) -/
namespace L3
open PySem PySem.Spec PyProof.Rows L2
open Sem (wp) in
theorem meets_enumG {v : Value} {hp' : Heap → Heap} {it : Heap → Addr} {H : Heap → Prop}
    (B : ∀ (prog : Program) (w : World) (A : Around) (E : Value → Shared → Prop) (s : Shared) (Q : Value → Shared → Prop), H s.heap → Q (.ref (it s.heap)) { s with heap := hp' s.heap } → wpAny (model prog w) A (pyIter v) Q E s) :
    Meets (Builtin.«enumerate.__new__» ⟨[.type "enumerate", v], []⟩) (fun _ R s => H s.heap ∧
      R (.ok (.ret (.ref (hp' s.heap).objs.size))) { s with heap := (hp' s.heap).push { cls := .type "enumerate", data := .fields #[.none, .bool false, .ref (it s.heap), rawInt 0, .none, .none] } }) :=
  .of_wp fun prog w A R s h => by
    obtain ⟨hp, g, d, tk, os⟩ := s
    obtain ⟨h1, h⟩ := h
    have hsub := sub_enumerate
    have q1 : ∀ {A' : Around} {E : Value → Shared → Prop} {Q : Value → Shared → Prop}, Q (.ref (it hp)) ⟨hp' hp, g, d, tk, os⟩ → wpAny (model prog w) A' (pyIter v) Q E ⟨hp, g, d, tk, os⟩ :=
      fun q => B prog w _ _ ⟨hp, g, d, tk, os⟩ _ h1 q
    wp_walk using q1
    refine wpAny_stack_any fun st => wpAny_pure ?_
    split
    · rename_i c _ _ _ _ _
      cases (c == Value.type "enumerate")
      · wp_walk using q1
        exact ⟨_, rfl, h⟩
      · wp_walk using q1
        exact ⟨_, rfl, h⟩
    · wp_walk using q1
      exact ⟨_, rfl, h⟩
section
variable {prog : Program} {w : World} {A : Around} {E : Value → Shared → Prop} {s : Shared}
theorem call_enumG {v : Value} {hp' : Heap → Heap} {it : Heap → Addr} {H : Heap → Prop} {Q : Value → Shared → Prop}
    (B : ∀ (prog : Program) (w : World) (A : Around) (E : Value → Shared → Prop) (s : Shared) (Q : Value → Shared → Prop), H s.heap → Q (.ref (it s.heap)) { s with heap := hp' s.heap } → wpAny (model prog w) A (pyIter v) Q E s)
    (h1 : H s.heap) (hk : ∀ b o, s.heap.get? b = some o → (hp' s.heap).get? b = some o)
    (h : ∀ h', IsEnum h' (hp' s.heap).objs.size (it s.heap) 0 .none → (∀ b o, (hp' s.heap).get? b = some o → h'.get? b = some o) → h'.objs.size = (hp' s.heap).objs.size + 1 → Q (.ref (hp' s.heap).objs.size) { s with heap := h' }) :
    wpAny (model prog w) A (call (.type "enumerate") [v]) Q E s := by
  refine callType_new F.called_enumerate (by decide) (F.typeCall_enumerate_1 _) (F.newCall_enumerate_1 _) (fun obj => F.args_object_init_2 obj _) F.entry_enumerate_new (meets_enumG B) ⟨h1, ?_⟩
  have he : IsEnum ((hp' s.heap).push { cls := .type "enumerate", data := .fields #[.none, .bool false, .ref (it s.heap), rawInt 0, .none, .none] }) (hp' s.heap).objs.size (it s.heap) 0 .none := Heap.get?_push_size _ rfl
  exact ⟨⟨_, he, rfl⟩, h _ he (fun b o x => Heap.get?_push_of_some _ x) (Heap.size_push ..)⟩
end
section
variable {prog : Program} {w : World} {A : Around} {E : Value → Shared → Prop} {s : Shared}
theorem enum_end_of {e it : Addr} {i : Int} {old : Value} {Q : Option Value → Shared → Prop} (he : IsEnum s.heap e it i old)
    (hd : ∀ (Q : Value → Shared → Prop) (E : Value → Shared → Prop), (∀ h' e, Heap.ExtBut it s.heap h' → (∃ o, h'.get? e = some o ∧ o.cls = .type "StopIteration") → E (.ref e) { s with heap := h' }) → wpAny (model prog w) A.in1 (Builtin.SmallTypes.nextOf (.ref it)) Q E s)
    (hQ : ∀ h', Heap.ExtBut it s.heap h' → Q none { s with heap := h' }) : wpAny (model prog w) A (pyNext (.ref e)) Q E s := by
  have hT : s.TypeIs (.ref e) "enumerate" := ⟨_, he, rfl⟩
  unfold pyNext
  refine wpAny_bind (wpAny_attempt (wpAny_callSpecial?_slot (name := Str.ofString "__next__") hT F.slot_enumerate_next
    (wpAny_call_entry F.slot_enumerate_next hT F.entry_enumerate_next ?_ (F.args_enumerate_next_1 _))))
  show wpAny _ _ (field (.ref e) 2 >>= _) _ _ _
  refine wpAny_bind (wpAny_field he rfl (x := .ref it) rfl ?_)
  refine wpAny_bind (hd _ _ fun h' x he' hx' => ?_)
  obtain ⟨o, ho, hc⟩ := hx'
  refine wpAny_bind (wpAny_isInstance (T := "StopIteration") (b := true) ⟨o, ho, hc⟩ isSubtype_stop ?_)
  exact wpAny_pure (hQ _ he')
end
/-- the tuple at a at each turn, each item in a new pair -/
def IteT (K : PySem.W.Frag) (a : Addr) : It :=
  ⟨fun i H => ∃ (xs : List V) (x : V), SqT K H a xs ∧ xs[i]? = some x, fun i H v H' => ∃ T x, v = .ref T ∧ H T = none ∧ H' = upd H T (.tup [.int (i : Nat), x]) ∧ ∀ xs, SqT K H a xs → xs[i]? = some x, fun i H => ∃ xs : List V, SqT K H a xs ∧ xs.length ≤ i⟩
theorem turn_enumT {P : Program} {w : World} {K : PySem.W.Frag} {elts : List Expr} {kk : Nat} {tpos : Pos} (a e it : Addr) :
    Turn P w K (.Tuple elts kk tpos) (IteT K a) [e, it] e (fun i h => (∃ old, IsEnum h e it ((i : Nat) : Int) old) ∧ h.IsTupleIter it a i ∧ e ≠ it ∧ e ≠ a ∧ it ≠ a) where
  mem := by simp
  obj := fun i h st b hb => by
    obtain ⟨⟨old, he⟩, ⟨o, ho, hc, hd⟩, _⟩ := st
    have e' : b = e ∨ b = it := by simpa using hb
    rcases e' with z | z
    · rw [z]; exact ⟨_, he, fun v q => nomatch q⟩
    · rw [z]; exact ⟨o, ho, fun v q => by rw [hd] at q; cases q⟩
  keep := fun i h h' st k => let ⟨⟨old, he⟩, hi, hne⟩ := st; ⟨⟨old, k e (by simp) _ he⟩, hi.at fun o q => k it (by simp) o q, hne⟩
  item := by
    intro X hP hw hK hc i pins s σ H E I hf st hg
    subst hP hw hK
    obtain ⟨⟨old, he⟩, hit, hne, hea, hia⟩ := st
    obtain ⟨xs, x, hq, hx⟩ := hg
    obtain ⟨its, rv, p, hz⟩ := I.tuple hq
    obtain ⟨u, hu, ru⟩ := rv.get hx
    have hel : e < s.heap.objs.size := Heap.lt_size he
    have hil : it < s.heap.objs.size := by obtain ⟨_, q, _⟩ := hit; exact Heap.lt_size q
    have hlt : i < its.toArray.size := by
      have := (List.getElem?_eq_some_iff.mp hu).1
      simpa using this
    have pt : s.heap.IsTuple a its.toArray := p
    refine wpAny_pyNext_enum_itemD (Draws.tuple (A := X.A.in1) (show X.A.in1.handled = none from I.ok.hd hc) it a (Ne.symm hia) its.toArray) he ⟨hit, pt⟩ hlt hne (show e ∉ [it, a] by simp [hne, hea]) fun u' h' tk hu' ho hit' hT hsz hk => ?_
    have eu : u' = u := by
      have := hu'
      simp only [List.getElem?_toArray] at this
      rw [hu] at this
      exact (Option.some.inj this).symm
    subst eu
    refine ⟨_, rfl, wpAny_letOwnedTupleGo_enum (s := { s with heap := h', toks := tk + 1 }) ho fun h'' he' sb => ?_⟩
    have hT2 : h''.get? s.heap.objs.size = some { cls := .type "tuple", data := .seq #[.int i tk, u'] } := (sb.2 _ (Nat.ne_of_gt hel)).trans hT
    have new : ObjOk X.prog X.w (upd H s.heap.objs.size (.tup [.int (i : Nat), x])) h'' s.heap.objs.size (.tup [.int (i : Nat), x]) :=
      ⟨by show 2 ≤ sizeLine; decide, [.int i tk, u'], .cons ⟨_, rfl⟩ (.cons ru .nil), ⟨_, hT2, rfl, _, rfl⟩⟩
    have I1 : Inv X pins σ (upd H s.heap.objs.size (.tup [.int (i : Nat), x])) { s with heap := h'', toks := tk + 1 } :=
      I.turnedNew (ch := [e, it]) (fun b ob hb q => (sb.2 b (fun z => hb (by simp [z]))).trans (hk b ob (fun z => hb (by simp [z])) (fun z => hb (by simp [z])) q)) hf (Nat.le_refl _) new
    refine ⟨.ref s.heap.objs.size, _, I1, rfl, ⟨_, x, rfl, I.hok.fresh (Nat.le_refl _), rfl, fun ys hy => by rw [I.tuple_inj hy hq]; exact hx⟩, ⟨⟨u', ?_⟩, hit'.1.at fun o q => (sb.2 it (Ne.symm hne)).trans q, hne, hea, hia⟩, fun b hb => ?_⟩
    · have e1 : ((i + 1 : Nat) : Int) = (i : Int) + 1 := by omega
      rw [e1]; exact he'
    · have hb' : b < s.heap.objs.size := by
        have e' : b = e ∨ b = it := by simpa using hb
        rcases e' with z | z
        · rw [z]; exact hel
        · rw [z]; exact hil
      rw [upd_ne (Nat.ne_of_lt hb')]
      exact (hf b hb).1
  done := by
    intro X hP hw hK hc i pins s σ H E I hf st hg
    subst hP hw hK
    obtain ⟨⟨old, he⟩, hit, hne, hea, hia⟩ := st
    obtain ⟨xs, hq, hx⟩ := hg
    obtain ⟨its, rv, p, hz⟩ := I.tuple hq
    obtain ⟨f0, f1, f2, f3, f4, f5⟩ := hf it (by simp)
    have hl := rv.length
    have pt : s.heap.IsTuple a its.toArray := p
    have hge : its.toArray.size ≤ i := by simp; omega
    exact enum_end_of he (fun Q E hE => wpAny_nextOf_tuple_end (show X.A.in1.handled = none from I.ok.hd hc) hit pt (Array.getElem?_eq_none hge) hE) fun h' eb => ⟨rfl, I.turned (t' := s.toks) (fun b o hb q => eb b o hb q) f0 f1 f3 f4 f5⟩
  self := fun A i s Q E st h => let ⟨⟨_, he⟩, _⟩ := st; wpAny_pyIter_enum he h

theorem itr_enumT {K : PySem.W.Frag} {w : W3} {a : Addr} {ds : List PyData} (h : Dp K w.h (.ref a) (.tuple ds)) : ItR K w (IteT K a) (enum3 ds) fun _ => True := fun w' H S e r _ => by
  obtain ⟨a', xs, ea, hqa, ha⟩ := dp_tup_ref (dp_mono e.h _ _ h)
  cases ea
  have hqa' := Same.sqT r.sub hqa
  have la := DpAll.length ha
  refine ⟨fun i hi => ⟨xs, hqa', by rw [enum3_len] at hi; omega⟩, fun i x hx => ?_⟩
  obtain ⟨x1, g1, rfl⟩ := enum3_get hx
  obtain ⟨v1, k1, k2⟩ := DpAll.get ha g1
  refine ⟨⟨xs, v1, hqa', k1⟩, fun v H' y => ?_⟩
  obtain ⟨T, y1, rfl, hn, rfl, z1⟩ := y
  have := (z1 _ hqa').symm.trans k1
  cases this
  exact pair_in r hn (.int _) k2
def iEnumT (K : PySem.W.Frag) (ta : TA) : TI := fun σ H R => ta σ H fun vs H1 => ∃ a xs, vs = [.ref a] ∧ SqT K H1 a xs ∧ R (IteT K a) H1
section
variable {X : Cx} {e : Expr} {ta : TA} {te : TA3} {p pos tpos : Pos} {elts : List Expr} {kk : Nat}
def iEnumA (K : PySem.W.Frag) (ta : TA) : TI := fun σ H R => ta σ H fun vs H1 => ∃ a xs, vs = [.ref a] ∧ ((SqL K H1 a xs ∧ R (Ite K a) H1) ∨ (SqT K H1 a xs ∧ R (IteT K a) H1))
theorem pi_enumA (hg : Gl X "enumerate") (hm : X.mg "enumerate" = none) (ha : PA X [e] ta) (hs : starEach [e] X.env = [(false, eval e X.env)] := by rfl) :
    PI X (.Tuple elts kk tpos) (.Call (.Name "enumerate" p) [e] [] pos) (iEnumA X.K ta) := by
  refine ⟨fun pins s σ H R I h => ?_⟩
  refine Call_ (ld_blt I hg hm boot_enumerate (PyProof.Rows.callWith_type1 (thn (ha.run pos pins s σ H _ I h) fun us s1 ⟨vs, H1, I1, r1, q1⟩ => ?_) hs rfl))
  obtain ⟨a, xs, ex, q⟩ := q1
  subst ex
  cases r1 with
  | cons r rr =>
    cases rr
    cases r
    rcases q with ⟨hq, q⟩ | ⟨hq, q⟩
    · obtain ⟨its, rv, p', hz⟩ := I1.list hq
      refine call_enumerate_list p'.isList fun h' he hit hsz hk => wpAny_pyIter_enum he ?_
      have I2 : Inv X pins σ H1 { s1 with heap := h' } := I1.kept (t' := s1.toks) hk
      refine ⟨s1.heap.objs.size + 1, [s1.heap.objs.size + 1, s1.heap.objs.size], _, _, H1, rfl, I2, turn_enum a (s1.heap.objs.size + 1) s1.heap.objs.size, ⟨⟨.none, he⟩, hit, Nat.succ_ne_self _⟩, fun b hb => ?_, q⟩
      have e' : b = s1.heap.objs.size + 1 ∨ b = s1.heap.objs.size := by simpa using hb
      have hle : s1.heap.objs.size ≤ b := by
        rcases e' with z | z
        · rw [z]; exact Nat.le_add_right _ _
        · rw [z]; exact Nat.le_refl _
      exact I1.fpOk hle (I1.hok.fresh hle)
    · obtain ⟨its, rv, p', hz⟩ := I1.tuple hq
      have pt : s1.heap.IsTuple a its.toArray := p'
      have B := begins_tuple a its.toArray
      have hlt : a < s1.heap.objs.size := p'.lt
      refine call_enumG (hp' := fun h => h.push { cls := .type "tuple_iterator", data := .fields #[.ref a, .int 0 0] }) (it := fun h => h.objs.size) (H := fun h => h.IsTuple a its.toArray) B.iter pt (fun b o x => Heap.get?_push_of_some _ x) fun h' he hk hsz => wpAny_pyIter_enum he ?_
      have hz' : (s1.heap.push { cls := .type "tuple_iterator", data := .fields #[.ref a, .int 0 0] }).objs.size = s1.heap.objs.size + 1 := Heap.size_push ..
      have hk' : ∀ b o, s1.heap.get? b = some o → h'.get? b = some o := fun b o x => hk b o (Heap.get?_push_of_some _ x)
      have hit : h'.IsTupleIter s1.heap.objs.size a 0 := ⟨_, hk _ _ (Heap.get?_push_size _ rfl), rfl, rfl⟩
      have I2 : Inv X pins σ H1 { s1 with heap := h' } := I1.kept (t' := s1.toks) hk'
      simp only [hz'] at he ⊢
      refine ⟨s1.heap.objs.size + 1, [s1.heap.objs.size + 1, s1.heap.objs.size], _, _, H1, rfl, I2, turn_enumT a (s1.heap.objs.size + 1) s1.heap.objs.size, ⟨⟨.none, he⟩, hit, Nat.succ_ne_self _, Nat.ne_of_gt (Nat.lt_succ_of_lt hlt), Nat.ne_of_gt hlt⟩, fun b hb => ?_, q⟩
      have e' : b = s1.heap.objs.size + 1 ∨ b = s1.heap.objs.size := by simpa using hb
      have hle : s1.heap.objs.size ≤ b := by
        rcases e' with z | z
        · rw [z]; exact Nat.le_add_right _ _
        · rw [z]; exact Nat.le_refl _
      exact I1.fpOk hle (I1.hok.fresh hle)
def tEnumA3 (ta : TA3) : TI3 := fun env S Q => ta env S fun ds S1 => match ds with
  | [.p (.tuple xs)] => Q (enum3 xs) (fun _ => True) S1
  | [x] => (match lst3 S1 x with
    | some xs => Q (enum3 xs) (fun S => lst3 S x = some xs) S1
    | _ => False)
  | _ => False
theorem qi_enumA (hc : X.calm = true) (hg : Gl X "enumerate") (hm : X.mg "enumerate" = none) (ha : QA X [e] te) (hs : starEach [e] X.env = [(false, eval e X.env)] := by rfl) :
    QI X (.Tuple elts kk tpos) (.Call (.Name "enumerate" p) [e] [] pos) (tEnumA3 te) := (pi_enumA hg hm ha hs).imp fun σ H R ⟨w, env, S, Q, r0, en, t, q⟩ => by
  refine ⟨w, env, S, _, r0, en, t, fun w1 vs ds H1 S1 e1 r1 p1 t1 => ?_⟩
  split at t1
  · obtain ⟨v, rfl, p2⟩ := rds1 p1
    obtain ⟨a, xs, rfl, hqa, ha⟩ := dp_tup_ref p2
    have l1 := len_tup r1 p2
    exact ⟨a, xs, rfl, .inr ⟨Same.sqT r1.sub hqa, q w1 _ H1 S1 _ _ e1 r1 (itr_enumT p2) (by rw [enum3_len]; exact l1) t1⟩⟩
  · obtain ⟨v, rfl, p2⟩ := rds1 p1
    split at t1
    · rename_i xs' h1
      obtain ⟨a, xs, rfl, hqa, ha, hla⟩ := lst3_low r1 p2 h1
      exact ⟨a, xs, rfl, .inl ⟨hqa, q w1 _ H1 S1 _ _ e1 r1 (itr_enum p2) (by rw [enum3_len]; exact hla) t1⟩⟩
    · exact t1.elim
  · exact t1.elim
end

/-! ### enumerate(reversed(tuple)) -/
open RT
section
variable {prog : Program} {w : World} {A : Around} {E : Value → Shared → Prop} {s : Shared}
theorem nextOf_rt_item {it t : Addr} {i : Nat} {items : Array Value} {x : Value} {Q : Value → Shared → Prop} (hit : IsRt s.heap it t (i : Int)) (ht : IsTup s.heap t items) (hx : items[i]? = some x) (hsz : items.size ≤ sizeLine)
    (hQ : ∀ h', IsRt h' it t ((i : Int) - 1) → Heap.SameBut it s.heap h' → Q x { s with heap := h', toks := s.toks + 1 }) : wpAny (model prog w) A (Builtin.SmallTypes.nextOf (.ref it)) Q E s := by
  obtain ⟨o, ho, hc, hd⟩ := id hit
  have hi : i < items.size := (Array.getElem?_eq_some_iff.mp hx).1
  have hT : s.TypeIs (.ref t) "tuple" := IsTup.typeOf' ht
  rw [sizeLine_eq] at hsz
  unfold Builtin.SmallTypes.nextOf
  refine wpAny_bind (wpAny_callSpecial?_slot (name := Str.ofString "__next__") hit.typeIs slot_rt_next
    (wpAny_call_entry slot_rt_next hit.typeIs entry_rt_next ?_ (args_rt_next _)))
  unfold Builtin.«reversed.__next__»
  refine wpAny_bind (wpAny_of_eq (a := (Value.ref it, [])) rfl ?_)
  try dsimp only
  refine wpAny_bind (wpAny_field ho hd (x := .ref t) rfl ?_)
  try dsimp only
  refine wpAny_bind (wpAny_field ho hd (x := rawInt (i : Int)) rfl ?_)
  show wpAny _ _ (if (i : Int) < 0 then _ else _) _ _ s
  rw [if_neg (by omega)]
  try dsimp only
  refine wpAny_bind (wpAny_specialOf hT get_tuple ?_)
  try dsimp only
  try rw [if_neg (by decide)]
  try dsimp only
  refine wpAny_bind (wpAny_mkInt ?_)
  refine wpAny_bind (wpAny_attempt ?_)
  have fin : seqIndex? (i : Int) items.size = some i := seqIndex_of (by omega) (by omega)
  refine PyProof.Rows.getItem_tuple (s := { s with toks := s.toks + 1 }) ht (by omega) (by omega) fin hx ?_
  try dsimp only
  refine wpAny_bind (wpAny_field (s := { s with toks := s.toks + 1 }) ho hd (x := rawInt (i : Int)) rfl ?_)
  try dsimp only
  refine wpAny_bind (wpAny_setField (s := { s with toks := s.toks + 1 }) ho hd (by simp) ?_)
  have fin2 := hQ _ (show IsRt (s.heap.update it (Obj.mapFields (·.setIfInBounds 1 (rawInt ((i : Int) - 1))))) it t ((i : Int) - 1) from ⟨_, Heap.get?_update_self _ ho (Obj.isFreed_of_fields (Obj.data_mapFields hd _)), (Obj.cls_mapFields ..).trans hc, by
    rw [Obj.data_mapFields hd]; simp⟩) (Heap.SameBut.update ..)
  first
  | exact wpAny_pure ⟨x, rfl, wpAny_pure fin2⟩
  | exact wpAny_bind (wpAny_pure (wpAny_pure ⟨x, rfl, wpAny_pure fin2⟩))
theorem nextOf_rt_end {it t : Addr} {Q : Value → Shared → Prop} (hh : A.handled = none) (hit : IsRt s.heap it t (-1))
    (hE : ∀ h' e, Heap.ExtBut it s.heap h' → (∃ o, h'.get? e = some o ∧ o.cls = .type "StopIteration") → E (.ref e) { s with heap := h' }) : wpAny (model prog w) A (Builtin.SmallTypes.nextOf (.ref it)) Q E s := by
  obtain ⟨o, ho, hc, hd⟩ := id hit
  unfold Builtin.SmallTypes.nextOf
  refine wpAny_bind (wpAny_callSpecial?_slot (name := Str.ofString "__next__") hit.typeIs slot_rt_next
    (wpAny_call_entry slot_rt_next hit.typeIs entry_rt_next ?_ (args_rt_next _)))
  unfold Builtin.«reversed.__next__»
  refine wpAny_bind (wpAny_of_eq (a := (Value.ref it, [])) rfl ?_)
  try dsimp only
  refine wpAny_bind (wpAny_field ho hd (x := .ref t) rfl ?_)
  try dsimp only
  refine wpAny_bind (wpAny_field ho hd (x := rawInt (-1)) rfl ?_)
  show wpAny _ _ (if (-1 : Int) < 0 then _ else _) _ _ s
  rw [if_pos (by decide)]
  try dsimp only
  refine wpAny_bind (wpAny_rule ?_)
  refine wpAny_bind ?_
  wp_delta
  refine wpAny_bind (wpAny_setField ho hd (by simp) ?_)
  have ho2 := Heap.get?_update_self (Obj.mapFields (·.setIfInBounds 1 (rawInt (-1)))) ho (Obj.isFreed_of_fields (Obj.data_mapFields hd _))
  refine wpAny_setField (s := { s with heap := s.heap.update it (Obj.mapFields (·.setIfInBounds 1 (rawInt (-1)))) }) ho2 (Obj.data_mapFields hd _) (by simp) ?_
  try dsimp only
  first
  | show wpAny _ _ (newExc (.type "StopIteration") [] >>= _) _ _ _
  | (refine wpAny_bind ?_; show wpAny _ _ (newExc (.type "StopIteration") [] >>= _) _ _ _)
  | (refine wpAny_bind ?_; wp_delta; show wpAny _ _ (newExc (.type "StopIteration") [] >>= _) _ _ _)
  refine wpAny_bind ?_
  simp only [newExc, newTuple]
  refine wpAny_bind (wpAny_newObj_type ?_ (by size_fits))
  refine wpAny_bind (m := firstArgMember _ _) (wpAny_of_eq (a := Value.none) (by first | rfl | (simp only [firstArgMember]; rfl)) ?_)
  refine wpAny_newObj_type ?_ (by size_fits)
  simp only [raiseNew]
  refine wpAny_bind (wpAny_handled ?_)
  first | rw [show A.in1.handled = none from hh] | rw [hh]
  refine wpAny_bind (wpAny_pure (wpAny_throw ?_))
  refine hE _ _ ?_ ⟨_, Heap.get?_push_size _ rfl, rfl⟩
  refine ((?_ : Heap.ExtBut it s.heap _).push _).push _
  exact fun b ob hb e => (Heap.get?_update_other _ _ (Ne.symm hb)).trans ((Heap.get?_update_other _ _ (Ne.symm hb)).trans e)
theorem draws_rt (hh : A.handled = none) (it t : Addr) (hne : t ≠ it) (items : Array Value) (hsz : items.size ≤ sizeLine) :
    Draws prog w A it [it, t] items.size (fun i v => items[items.size - 1 - i]? = some v) (fun i h => i ≤ items.size ∧ IsRt h it t ((items.size : Int) - 1 - (i : Nat)) ∧ h.IsTuple t items) where
  live := fun _ _ st => let ⟨_, ⟨o, ho, _⟩, _⟩ := st; ⟨o, ho⟩
  frame := fun _ _ _ st hk => ⟨st.1, st.2.1.at fun o e => hk it (by simp) o e, st.2.2.at fun o e => hk t (by simp) o e⟩
  item := fun i s Q E hi st hQ => by
    have hlt : items.size - 1 - i < items.size := by omega
    have e1 : (items.size : Int) - 1 - ((i : Nat) : Int) = ((items.size - 1 - i : Nat) : Int) := by omega
    have st2 := st.2.1
    rw [e1] at st2
    refine nextOf_rt_item st2 st.2.2 (x := items[items.size - 1 - i]) (Array.getElem?_eq_getElem hlt) hsz fun h' st' sb => ?_
    have e2 : ((items.size - 1 - i : Nat) : Int) - 1 = (items.size : Int) - 1 - ((i + 1 : Nat) : Int) := by omega
    rw [e2] at st'
    exact hQ _ h' (s.toks + 1) (Array.getElem?_eq_getElem hlt) ⟨by omega, st', st.2.2.extBut sb.extBut hne⟩ sb
  done := fun s Q E st hE => by
    have st2 := st.2.1
    have e1 : (items.size : Int) - 1 - ((items.size : Nat) : Int) = -1 := by omega
    rw [e1] at st2
    exact nextOf_rt_end hh st2 hE
end
/-- the tuple at a from its end, each item in a new pair -/
def IteR (K : PySem.W.Frag) (a : Addr) (n : Nat) : It :=
  ⟨fun i H => i < n ∧ ∃ (xs : List V) (x : V), SqT K H a xs ∧ xs.length = n ∧ xs[n - 1 - i]? = some x, fun i H v H' => ∃ T x, v = .ref T ∧ H T = none ∧ H' = upd H T (.tup [.int (i : Nat), x]) ∧ ∀ xs, SqT K H a xs → xs[n - 1 - i]? = some x, fun i _ => n ≤ i⟩
theorem turn_enumR {P : Program} {w : World} {K : PySem.W.Frag} {elts : List Expr} {kk : Nat} {tpos : Pos} (a e it : Addr) (n : Nat) :
    Turn P w K (.Tuple elts kk tpos) (IteR K a n) [e, it] e (fun i h => (∃ old, IsEnum h e it ((i : Nat) : Int) old) ∧ (i ≤ n ∧ IsRt h it a ((n : Int) - 1 - (i : Nat))) ∧ e ≠ it ∧ e ≠ a ∧ it ≠ a) where
  mem := by simp
  obj := fun i h st b hb => by
    obtain ⟨⟨old, he⟩, ⟨_, o, ho, hc, hd⟩, _⟩ := st
    have e' : b = e ∨ b = it := by simpa using hb
    rcases e' with z | z
    · rw [z]; exact ⟨_, he, fun v q => nomatch q⟩
    · rw [z]; exact ⟨o, ho, fun v q => by rw [hd] at q; cases q⟩
  keep := fun i h h' st k => let ⟨⟨old, he⟩, hi, hne⟩ := st; ⟨⟨old, k e (by simp) _ he⟩, ⟨hi.1, hi.2.at fun o q => k it (by simp) o q⟩, hne⟩
  item := by
    intro X hP hw hK hc i pins s σ H E I hf st hg
    subst hP hw hK
    obtain ⟨⟨old, he⟩, ⟨hin, hit⟩, hne, hea, hia⟩ := st
    obtain ⟨hlt, xs, x, hq, hxl, hx⟩ := hg
    obtain ⟨its, rv, p, hz⟩ := I.tuple hq
    obtain ⟨u, hu, ru⟩ := rv.get hx
    have hl := rv.length
    have hsz : its.toArray.size = n := by rw [List.size_toArray]; omega
    have hel : e < s.heap.objs.size := Heap.lt_size he
    have hil : it < s.heap.objs.size := by obtain ⟨_, q, _⟩ := hit; exact Heap.lt_size q
    have pt : s.heap.IsTuple a its.toArray := p
    refine wpAny_pyNext_enum_itemD (draws_rt (A := X.A.in1) (show X.A.in1.handled = none from I.ok.hd hc) it a (Ne.symm hia) its.toArray (by rw [hsz, ← hxl]; exact hz)) he ⟨by omega, by rw [hsz]; exact hit, pt⟩ (by omega) hne (show e ∉ [it, a] by simp [hne, hea]) fun u' h' tk hu' ho hit' hT hsz' hk => ?_
    have eu : u' = u := by
      have := hu'
      rw [hsz] at this
      simp only [List.getElem?_toArray] at this
      rw [hu] at this
      exact (Option.some.inj this).symm
    subst eu
    refine ⟨_, rfl, wpAny_letOwnedTupleGo_enum (s := { s with heap := h', toks := tk + 1 }) ho fun h'' he' sb => ?_⟩
    have hT2 : h''.get? s.heap.objs.size = some { cls := .type "tuple", data := .seq #[.int i tk, u'] } := (sb.2 _ (Nat.ne_of_gt hel)).trans hT
    have new : ObjOk X.prog X.w (upd H s.heap.objs.size (.tup [.int (i : Nat), x])) h'' s.heap.objs.size (.tup [.int (i : Nat), x]) :=
      ⟨by show 2 ≤ sizeLine; decide, [.int i tk, u'], .cons ⟨_, rfl⟩ (.cons ru .nil), ⟨_, hT2, rfl, _, rfl⟩⟩
    have I1 : Inv X pins σ (upd H s.heap.objs.size (.tup [.int (i : Nat), x])) { s with heap := h'', toks := tk + 1 } :=
      I.turnedNew (ch := [e, it]) (fun b ob hb q => (sb.2 b (fun z => hb (by simp [z]))).trans (hk b ob (fun z => hb (by simp [z])) (fun z => hb (by simp [z])) q)) hf (Nat.le_refl _) new
    have hit2 := hit'.2.1
    rw [hsz] at hit2
    refine ⟨.ref s.heap.objs.size, _, I1, rfl, ⟨_, x, rfl, I.hok.fresh (Nat.le_refl _), rfl, fun ys hy => by rw [I.tuple_inj hy hq]; exact hx⟩, ⟨⟨u', ?_⟩, ⟨by omega, hit2.at fun o q => (sb.2 it (Ne.symm hne)).trans q⟩, hne, hea, hia⟩, fun b hb => ?_⟩
    · have e1 : ((i + 1 : Nat) : Int) = (i : Int) + 1 := by omega
      rw [e1]; exact he'
    · have hb' : b < s.heap.objs.size := by
        have e' : b = e ∨ b = it := by simpa using hb
        rcases e' with z | z
        · rw [z]; exact hel
        · rw [z]; exact hil
      rw [upd_ne (Nat.ne_of_lt hb')]
      exact (hf b hb).1
  done := by
    intro X hP hw hK hc i pins s σ H E I hf st hg
    subst hP hw hK
    obtain ⟨⟨old, he⟩, ⟨hin, hit⟩, hne, hea, hia⟩ := st
    have hi : n ≤ i := hg
    obtain ⟨f0, f1, f2, f3, f4, f5⟩ := hf it (by simp)
    have e1 : (n : Int) - 1 - ((i : Nat) : Int) = -1 := by omega
    rw [e1] at hit
    exact enum_end_of he (fun Q E hE => nextOf_rt_end (show X.A.in1.handled = none from I.ok.hd hc) hit hE) fun h' eb => ⟨rfl, I.turned (t' := s.toks) (fun b o hb q => eb b o hb q) f0 f1 f3 f4 f5⟩
  self := fun A i s Q E st h => let ⟨⟨_, he⟩, _⟩ := st; wpAny_pyIter_enum he h
theorem itr_enumR {K : PySem.W.Frag} {w : W3} {a : Addr} {ds : List PyData} (h : Dp K w.h (.ref a) (.tuple ds)) : ItR K w (IteR K a ds.length) (enum3 ds.reverse) fun _ => True := fun w' H S e r _ => by
  obtain ⟨a', xs, ea, hqa, ha⟩ := dp_tup_ref (dp_mono e.h _ _ h)
  cases ea
  have hqa' := Same.sqT r.sub hqa
  have la := DpAll.length ha
  refine ⟨fun i hi => ?_, fun i x hx => ?_⟩
  · rw [enum3_len, List.length_reverse] at hi
    exact hi
  · obtain ⟨x1, g1, rfl⟩ := enum3_get hx
    obtain ⟨g0, g1⟩ := rev_get g1
    obtain ⟨v1, k1, k2⟩ := DpAll.get ha g1
    refine ⟨⟨g0, xs, v1, hqa', la, k1⟩, fun v H' y => ?_⟩
    obtain ⟨T, y1, rfl, hn, rfl, z1⟩ := y
    have := (z1 _ hqa').symm.trans k1
    cases this
    exact pair_in r hn (.int _) k2
section
variable {X : Cx} {e : Expr} {te : TE} {t3 : TE3} {p p2 pos pos2 tpos : Pos} {elts : List Expr} {kk : Nat}
def iEnumR (K : PySem.W.Frag) (te : TE) : TI := fun σ H R => te σ H fun v H1 => ∃ a xs, v = .ref a ∧ SqT K H1 a xs ∧ R (IteR K a xs.length) H1
theorem pi_enumR (hg : Gl X "enumerate") (hm : X.mg "enumerate" = none) (hg2 : Gl X "reversed") (hm2 : X.mg "reversed" = none) (he : PE X e te) (hs : starEach [e] X.env = (false, eval e X.env) :: starEach [] X.env := by rfl)
    (hs2 : starEach [.Call (.Name "reversed" p2) [e] [] pos2] X.env = (false, eval (.Call (.Name "reversed" p2) [e] [] pos2) X.env) :: starEach [] X.env := by rfl) :
    PI X (.Tuple elts kk tpos) (.Call (.Name "enumerate" p) [.Call (.Name "reversed" p2) [e] [] pos2] [] pos) (iEnumR X.K te) := by
  refine ⟨fun pins s σ H R I h => ?_⟩
  have inner : wpAny (model X.prog X.w) X.A (eval (.Call (.Name "reversed" p2) [e] [] pos2) X.env) (fun u s2 => ∃ (it a : Addr) (xs : List V) (H1 : Hp), u = Value.ref it ∧ Inv X pins σ H1 s2 ∧ IsRt s2.heap it a ((xs.length : Int) - 1 - ((0 : Nat) : Int)) ∧ FpOk X pins H1 it ∧ it ≠ a ∧ it < s2.heap.objs.size ∧ a < s2.heap.objs.size ∧ R (IteR X.K a xs.length) H1) X.xe s := by
    refine Call_ (ld_blt I hg2 hm2 PyProof.Rows.boot_reversed (PyProof.Rows.callWith_type1 (args_cons (thn (he.run pins s σ H _ I h) fun u s1 ⟨v, H1, I1, r1, q1⟩ => args_nil ?_) hs) hs rfl))
    obtain ⟨a, xs, ev, hq, q⟩ := q1
    subst ev
    obtain rfl : u = Value.ref a := r1
    obtain ⟨its, rv, p', hz⟩ := I1.tuple hq
    have hl := rv.length
    have hn := line63
    have e1 : ((its.toArray.size : Nat) : Int) - 1 = (xs.length : Int) - 1 - ((0 : Nat) : Int) := by simp only [List.size_toArray]; omega
    have hlt : a < s1.heap.objs.size := p'.lt
    refine call_reversed_tup p' (fun A E Q k => len_tuple p' (by simp only [List.size_toArray] <;> omega) k) ?_
    have hz' : (s1.heap.push (rtObj a ((its.toArray.size : Int) - 1))).objs.size = s1.heap.objs.size + 1 := Heap.size_push ..
    refine ⟨s1.heap.objs.size, a, xs, H1, rfl, I1.kept (t' := s1.toks + 1 + 1) (fun b o x => Heap.get?_push_of_some _ x), ?_, I1.fpOk (Nat.le_refl _) (I1.hok.fresh (Nat.le_refl _)), Nat.ne_of_gt hlt, ?_, ?_, q⟩
    · rw [← e1]
      exact ⟨_, Heap.get?_push_size _ rfl, rfl, rfl⟩
    · show s1.heap.objs.size < (s1.heap.push _).objs.size
      rw [hz']
      exact Nat.lt_succ_self _
    · show a < (s1.heap.push _).objs.size
      rw [hz']
      exact Nat.lt_succ_of_lt hlt
  refine Call_ (ld_blt I hg hm boot_enumerate (PyProof.Rows.callWith_type1 (args_cons (thn inner fun u s2 hx => args_nil ?_) hs2) hs2 rfl))
  obtain ⟨it, a, xs, H1, rfl, I2, hit, hf, hia, hlt, hla, q⟩ := hx
  refine call_enumG (v := .ref it) (hp' := fun h => h) (it := fun _ => it) (H := fun h => IsRt h it a ((xs.length : Int) - 1 - ((0 : Nat) : Int))) (fun prog w A E s Q h1 hQ => iter_rt h1 hQ) hit (fun b o x => x) fun h' he hk hsz => wpAny_pyIter_enum he ?_
  have I3 : Inv X pins σ H1 { s2 with heap := h' } := I2.kept (t' := s2.toks) hk
  refine ⟨s2.heap.objs.size, [s2.heap.objs.size, it], _, _, H1, rfl, I3, turn_enumR a s2.heap.objs.size it xs.length, ⟨⟨.none, he⟩, ⟨Nat.zero_le _, hit.at fun o q => hk it o q⟩, Nat.ne_of_gt hlt, Nat.ne_of_gt hla, hia⟩, fun b hb => ?_, q⟩
  have e' : b = s2.heap.objs.size ∨ b = it := by simpa using hb
  rcases e' with z | z
  · rw [z]
    exact I2.fpOk (Nat.le_refl _) (I2.hok.fresh (Nat.le_refl _))
  · rw [z]
    exact hf
def tEnumR3 (te : TE3) : TI3 := fun env S Q => te env S fun x S1 => match x with
  | .p (.tuple xs) => Q (enum3 xs.reverse) (fun _ => True) S1
  | _ => False
theorem qi_enumR (hc : X.calm = true) (hg : Gl X "enumerate") (hm : X.mg "enumerate" = none) (hg2 : Gl X "reversed") (hm2 : X.mg "reversed" = none) (he : QE X e t3) (hs : starEach [e] X.env = (false, eval e X.env) :: starEach [] X.env := by rfl)
    (hs2 : starEach [.Call (.Name "reversed" p2) [e] [] pos2] X.env = (false, eval (.Call (.Name "reversed" p2) [e] [] pos2) X.env) :: starEach [] X.env := by rfl) :
    QI X (.Tuple elts kk tpos) (.Call (.Name "enumerate" p) [.Call (.Name "reversed" p2) [e] [] pos2] [] pos) (tEnumR3 t3) := (pi_enumR hg hm hg2 hm2 he hs hs2).imp fun σ H R ⟨w, env, S, Q, r0, en, t, q⟩ => by
  refine ⟨w, env, S, _, r0, en, t, fun w1 v d H1 S1 e1 r1 p1 t1 => ?_⟩
  split at t1
  · obtain ⟨a, xs, rfl, hqa, ha⟩ := dp_tup_ref p1
    have l1 := len_tup r1 p1
    have la := DpAll.length ha
    refine ⟨a, xs, rfl, Same.sqT r1.sub hqa, ?_⟩
    rw [la]
    exact q w1 _ H1 S1 _ _ e1 r1 (itr_enumR p1) (by rw [enum3_len, List.length_reverse]; exact l1) t1
  · exact t1.elim
end
end L3

namespace L3
open PySem PySem.Spec PyProof.Rows L2
/-! ### a module's constant -/
theorem qe_gl {X : Cx} {x : Str} {d : PyData} {pos : Pos} (h : ∃ (u : Value) (v : V), X.mg x = some u ∧ RelV v u ∧ ∀ H, Dp X.K H v d) (hg : Gl X x) (hdb : (x == ("__debug__" : Str)) = false := by decide) : QE X (.Name x pos) (tC3 d) := by
  obtain ⟨u, v, h1, h2, h3⟩ := h
  exact qe_glob hg h1 h2 h3 hdb
/-! ### xs[i] op= e, a list of the store -/
section
variable {X : Cx}
theorem get_list : PGet X (fun x y H Q => ∃ p xs i v, x = .ref p ∧ y = .int i ∧ SqL X.K H p xs ∧ atI xs i = some v ∧ Q v H) := by
  intro pins s σ H o i ov iv Q I ro ri h
  obtain ⟨p, xs, k, z, rfl, rfl, hq, he, q⟩ := h
  cases ro
  obtain ⟨t, rfl⟩ := ri
  obtain ⟨its, r, pl, hz⟩ := I.list hq
  obtain ⟨j, h1, h2, h3, h4, h5⟩ := atI_get he
  obtain ⟨w, ew, rw'⟩ := r.get h2
  have hl := r.length
  have hn := line63
  have fin : EP X pins σ Q w s := ⟨z, H, I, rw', q⟩
  by_cases h0 : 0 ≤ k
  · have hj : k.toNat = j := by
      rw [seqIndex_of h0 h5] at h1
      exact Option.some.inj h1
    refine wpAny_getItem_list pl.isList (k := k) (x := w) ?_ ?_ ?_ fin
    all_goals first | omega | (simp; omega) | (rw [hj]; simpa using ew) | skip
  · have hj : (k + (its.toArray.size : Int)).toNat = j := by
      rw [seqIndex_neg (by omega) h4] at h1
      rw [List.size_toArray, ← hl]
      exact Option.some.inj h1
    exact wpAny_getItem_list_neg pl.isList (by omega) (by rw [List.size_toArray] <;> omega) (by omega) (by rw [hj]; simpa using ew) fin
/-- o[i] op= e -/
def tAugI3 (to ti te : TE3) (r : R3) : TS3 := fun D env S => to env S fun o S1 => ti env S1 fun i S2 => match own3 S2 o, i with
  | some (n, ds), .p (.int k) => (match atI ds k with
    | some x => te env S2 fun y S3 => r (.p x) y S3 fun z S4 => match own3 S4 o, z with
      | some (n', ds'), .p d => (match ixN ds'.length k with
        | some j => D.nx env (S4.set n' (some (.lst (ds'.set j d))))
        | none => False)
      | _, _ => False
    | none => False)
  | _, _ => False
theorem qs_augI {o i e : Expr} {to ti te : TE3} {op : Operator} {r : R3} {tip : TIp} {tpos pos : Pos} (ho : QE X o to) (hi : QE X i ti) (he : QE X e te) (hop : PIp X op tip ∧ ∀ x y H R, lowR X.K r x y H R → tip x y H R)
    (ha : ∀ ov iv new, augStore i ov iv new = (do holding [new, ov, iv] (setItem ov iv new); release [new, ov, iv] []; pure .next) := by intros; rfl) : QS X (.AugAssign (.Subscript o i tpos) op e pos) (tAugI3 to ti te r) :=
  (ps_augS ho hi get_list he hop.1 set_list ha).imp fun D σ H ⟨w, env, S, D3, r0, en, t, q⟩ => by
    refine ⟨w, env, S, _, r0, en, t, fun w1 v d H1 S1 e1 r1 p1 t1 => ?_⟩
    refine ⟨w1, env, S1, _, r1, en.mono e1, t1, fun w2 u c H2 S2 e2 r2 p2 t2 => ?_⟩
    split at t2
    rotate_left
    · exact t2.elim
    rename_i n ds k ho1
    split at t2
    rotate_left
    · exact t2.elim
    rename_i x hx
    obtain ⟨a, xs, hva, hd0, ha1, hs1, hu1, hd1, hz1⟩ := own3_low r2 (p1.mono e2) ho1
    subst hva
    obtain ⟨v1, g1, g2⟩ := atI_dp hd1 hx
    refine ⟨a, xs, k, v1, rfl, dp_int p2, .inl (.inl hu1), g1, ?_⟩
    refine ⟨w2, env, S2, _, r2, (en.mono e1).mono e2, t2, fun w3 y c3 H3 S3 e3 r3 p3 t3 => ?_⟩
    refine hop.2 _ _ _ _ ⟨w3, S3, .p x, c3, _, r3, RepD.mono (d := .p x) e3 g2, p3, t3, fun w4 z c4 H4 S4 e4 r4 p4 t4 => ?_⟩
    split at t4
    rotate_left
    · exact t4.elim
    rename_i n' ds' d' ho4
    split at t4
    rotate_left
    · exact t4.elim
    rename_i j hj
    have e14 := (e2.trans e3).trans e4
    obtain ⟨a', xs', hva', hd4, ha4, hs4, hu4, hd4', hz4⟩ := own3_low r4 (p1.mono e14) ho4
    cases hva'
    refine ⟨a, xs', k, j, rfl, dp_int p2, hu4, by rw [DpAll.length hd4']; exact hj, ?_⟩
    exact q.nx w4 σ _ env _ (e1.trans e14) (r4.put (o' := .lst (ds'.set j d')) ha4 hs4 ⟨_, rfl, DpAll.set p4 j hd4', by rw [List.length_set]; exact hz4⟩) ((en.mono e1).mono e14) t4
end
end L3

namespace L3
open PySem PySem.Spec PyProof.Rows L2
/-! ### <= of data, min of a list of data -/
def rLeD3 : R3 := fun x y S Q => match x, y with
  | .p (.int i), .p (.int j) => Q (.p (.bool (decide (i ≤ j)))) S
  | .p d, .p e => LtOk d e ∧ Q (.p (.bool (!PySem.W.dataLt e d))) S
  | _, _ => False
theorem op_leD {X : Cx} (hu : X.A.units + 64 < cLine) : OpR X (compareOp .LtE) (fun x y H Q => ∃ d e, Dp X.K H x d ∧ Dp X.K H y e ∧ LtOk d e ∧ Q (.bl (!PySem.W.dataLt e d)) H) := by
  intro pins s σ H x y v u Q I rx ry h
  obtain ⟨d, e, hd, he, ⟨h1, h2, h3⟩, q⟩ := h
  obtain ⟨as, r1⟩ := Dp.reads I d x v hd rx
  obtain ⟨bs, r2⟩ := Dp.reads I e y u he ry
  exact PySem.W.rcLe_alike d e X.A s v u as bs r1 r2 h1 h2 (by omega) X.prog X.w X.xe _ ⟨.bl _, H, I, rfl, q⟩
theorem oq_leD {X : Cx} (hu : X.A.units + 64 < cLine) : OQ X (compareOp .LtE) rLeD3 := opq (op_le.or (op_leD hu)) fun w S d e x y H Q R r0 p1 p2 t q => by
  unfold rLeD3 at t
  split at t
  · exact .inl ⟨_, _, dp_int p1, dp_int p2, q.bl r0 t⟩
  · exact .inr ⟨_, _, dp_mono r0.sub _ _ p1, dp_mono r0.sub _ _ p2, t.1, q.bl r0 t.2⟩
  · exact t.elim
def MinOk (ds : List PyData) : Prop := PySem.W.AlikeAll ds ∧ PyData.depthAll ds ≤ 60
open PySem.W in
theorem min_list_ix {prog : Program} {w : World} {A : Around} {E : Value → Shared → Prop} {s : Shared} {l : Addr} {vs : Array Value} {x : PyData} {xs : List PyData} {as : List Addr} {Q : Value → Shared → Prop} (hh : A.handled = none) (hl : s.heap.IsList l vs) (hr : ReadsAll s.heap vs.toList (x :: xs) as) (ha : AlikeAll (x :: xs)) (hu : A.units + 1 + PyData.depthAll (x :: xs) < cLine)
    (h : ∀ (i : Nat) v h' tk, i < xs.length + 1 → vs[i]? = some v → (x :: xs).getD i .none = minD x xs → (∀ b o, s.heap.get? b = some o → h'.get? b = some o) → Q v { s with heap := h', toks := tk }) :
    wpAny (model prog w) A (call (.builtin "min") [.ref l]) Q E s := by
  have hn : vs.size = xs.length + 1 := readsAll_len hr
  refine call_min_walkH (iter_listW (A := A.in1) hh hl fun s₂ e W st hfp hw hk => ?_)
  refine ⟨_, _, _, _, _, _, _, s.heap, _, rfl, W, st, hfp, by omega, hw, hk, cmpIn_lt (A := A.in1) hr ha (by show A.units + 1 + _ < _; exact hu), fun v s' hP m => ?_⟩
  obtain ⟨h', tk, rfl, hk'⟩ := moved_old e rfl m
  have e1 : vs.size - 1 = xs.length := by omega
  have e2 := argBest_fold dataLt PyData.none x xs xs.length (Nat.le_refl _)
  rw [List.take_length] at e2
  rw [e1] at hP
  exact h _ v h' tk (Nat.lt_succ_of_le e2.1) hP (by unfold minD; exact e2.2) hk'
open PySem.W in
def rMinDV (K : PySem.W.Frag) : List V → Hp → VK → Prop := fun vs H Q => ∃ (a : Addr) (xs : List V) (d : PyData) (ds : List PyData), vs = [V.ref a] ∧ SqL K H a xs ∧ DpAll K H xs (d :: ds) ∧ MinOk (d :: ds) ∧
  ∀ i y, i < ds.length + 1 → xs[i]? = some y → (d :: ds).getD i .none = minD d ds → Q y H
theorem dpAll_reads {X : Cx} {pins : List (Addr × Obj)} {σ : L2.St} {H : Hp} {s : Shared} (I : L2.Inv X pins σ H s) : ∀ {its : List Value} {xs : List V} {ds : List PyData}, Vals xs its → DpAll X.K H xs ds → ∃ as, ReadsAll s.heap its ds as
  | _, _, _, .nil, .nil => ⟨_, .nil⟩
  | _, _, _, .cons r rs, .cons p ps => by
    obtain ⟨as, h1⟩ := dpAll_reads I rs ps
    obtain ⟨bs, h2⟩ := Dp.reads I _ _ _ p r
    exact ⟨_, .cons h2 h1⟩
theorem vals_ix : ∀ {xs : List V} {vs : List Value}, Vals xs vs → ∀ (i : Nat) (v : Value), vs[i]? = some v → ∃ x, xs[i]? = some x ∧ RelV x v
  | _, _, .nil, i, v, h => by simp at h
  | _, _, .cons r rs, 0, v, h => ⟨_, rfl, by
      have e := Option.some.inj (show some _ = some v from h)
      subst e
      exact r⟩
  | _, _, .cons r rs, i + 1, v, h => by
    obtain ⟨x, h1, h2⟩ := vals_ix rs i v (by simpa using h)
    exact ⟨x, by simpa using h1, h2⟩
theorem dpAll_ix {K : PySem.W.Frag} {h : Hp} : ∀ {xs : List V} {ds : List PyData}, DpAll K h xs ds → ∀ (i : Nat) (x : V), xs[i]? = some x → i < ds.length ∧ Dp K h x (ds.getD i .none)
  | _, _, .nil, i, x, e => by simp at e
  | _, _, .cons p ps, 0, x, e => by
    have e := Option.some.inj (show some _ = some x from e)
    subst e
    exact ⟨Nat.zero_lt_succ _, p⟩
  | _, _, .cons p ps, i + 1, x, e => by
    obtain ⟨a, b⟩ := dpAll_ix ps i x (by simpa using e)
    exact ⟨Nat.succ_lt_succ a, by simpa using b⟩
open PySem.W in
theorem cr_minD {X : Cx} (hc : X.calm = true) (hu : X.A.units + 64 < cLine) : CallR X (.builtin "min") (rMinDV X.K) := by
  intro pins s σ H vs us Q I r h
  obtain ⟨a, xs, d, ds, rfl, hs, hd, ⟨hal, hdep⟩, q⟩ := h
  obtain ⟨its, rv, hl, _⟩ := I.list hs
  rw [Vals.ref1 r]
  obtain ⟨as, hr⟩ := dpAll_reads I rv hd
  refine min_list_ix (I.ok.hd hc) hl.isList hr hal (by omega) fun i v h' tk hi hv hm hk => ?_
  obtain ⟨y, hy, hrel⟩ := vals_ix rv i v (by simpa using hv)
  exact ⟨y, H, I.kept hk, hrel, q i y hi hy hm⟩
def rMinD3 : C3 := fun ds S Q => match ds with
  | [d] => (match lst3 S d with
    | some (x :: xs) => MinOk (x :: xs) ∧ Q (.p (PySem.W.minD x xs)) S
    | _ => False)
  | _ => False
theorem cq_minD {X : Cx} (hc : X.calm = true) (hu : X.A.units + 64 < cLine) : CQ X (.builtin "min") rMinD3 := callq (cr_minD hc hu) fun w S ds xs H Q R r0 p1 t q => by
  unfold rMinD3 at t
  split at t
  · obtain ⟨v, rfl, p⟩ := rds1 p1
    split at t
    · rename_i y ys h1
      obtain ⟨a, vs, rfl, hq, hd, hz⟩ := lst3_low r0 p h1
      refine ⟨a, vs, y, ys, rfl, hq, dpAll_mono r0.sub _ _ hd, t.1, fun i x hi hx hm => ?_⟩
      obtain ⟨_, hp⟩ := dpAll_ix hd i x hx
      rw [hm] at hp
      exact q.old r0 (d := .p _) hp t.2
    · exact t.elim
  · exact t.elim
end L3

namespace L3
open PySem PySem.Spec PyProof.Rows L2
/-! ### own dicts whose keys are tuples of ints and texts -/
def keysT : List PyData → Option (List Key)
  | [] => some []
  | d :: ds => match key3 d, keysT ds with
    | some k, some ks => some (k :: ks)
    | _, _ => none
/-- no empty tuple and no tuple of ints and texts stands behind the top -/
def NoTK (K : PySem.W.Frag) : Prop := ∀ (a : Addr) (o : Obj) (its : Array Value) (n : Nat) (ks : List Key), (ks = [] ∨ ∃ (i : Int) (r : List Key), ks = .inl i :: r) → K.lookup a = some o → o.cls = .type "tuple" → o.data = .seq its n → ¬ Vals (ks.map kV) its.toList
def tupOk (o : Obj) : Bool := match o.data with
  | .seq its _ => (match its.toList with
    | [] => false
    | .int _ _ :: _ => false
    | _ => true)
  | _ => true
theorem NoTK.of {K : PySem.W.Frag} (h : ∀ a o, K.lookup a = some o → tupOk o = true) : NoTK K := by
  intro a o its n ks hks hl hc hd hv
  have h1 := h a o hl
  unfold tupOk at h1
  rw [hd] at h1
  simp only at h1
  generalize its.toList = l at h1 hv
  rcases hks with rfl | ⟨i, r, rfl⟩
  · cases hv
    simp at h1
  · cases hv with
    | cons r rs =>
      obtain ⟨t, rfl⟩ := (show RelV (.int i) _ from r)
      simp at h1
theorem lookup_mem {a : Addr} {o : Obj} : ∀ {K : PySem.W.Frag}, K.lookup a = some o → (a, o) ∈ K
  | [], h => nomatch h
  | (b, x) :: K, h => by
    rw [List.lookup_cons] at h
    split at h
    · rename_i e
      cases h
      have : a = b := by simpa using e
      rw [this]
      exact List.mem_cons_self
    · exact List.mem_cons_of_mem _ (lookup_mem h)
/-- what stands behind the top, without such tuples -/
abbrev filtK (K : PySem.W.Frag) : PySem.W.Frag := K.filter fun p => tupOk p.2
theorem NoTK.filt (K : PySem.W.Frag) : NoTK (filtK K) := NoTK.of fun a o hl => (List.mem_filter.mp (lookup_mem hl)).2
/-- by rising addresses -/
def ascB : PySem.W.Frag → Bool
  | p :: q :: r => Nat.blt p.1 q.1 && ascB (q :: r)
  | _ => true
theorem asc_tail {p : Addr × Obj} {r : PySem.W.Frag} (h : ascB (p :: r) = true) : ascB r = true := by
  cases r with
  | nil => rfl
  | cons q r => unfold ascB at h; exact (Bool.and_eq_true_iff.mp h).2
theorem asc_lt : ∀ {r : PySem.W.Frag} {p : Addr × Obj}, ascB (p :: r) = true → ∀ q ∈ r, p.1 < q.1 := by
  intro r
  induction r with
  | nil => intro p _ x hx; cases hx
  | cons q r ih =>
    intro p h x hx
    have h2 := asc_tail h
    unfold ascB at h
    have h1 : p.1 < q.1 := by
      have := (Bool.and_eq_true_iff.mp h).1
      exact Nat.blt_eq.mp this
    rcases List.mem_cons.mp hx with rfl | hx
    · exact h1
    · exact Nat.lt_trans h1 (ih h2 x hx)
theorem lookup_filt {a : Addr} {o : Obj} : ∀ {K : PySem.W.Frag}, ascB K = true → (filtK K).lookup a = some o → K.lookup a = some o
  | [], _, e => nomatch e
  | (b, x) :: K, h, e => by
    unfold filtK at e
    rw [List.filter_cons] at e
    split at e
    · rw [List.lookup_cons] at e ⊢
      split at e
      · exact e
      · exact lookup_filt (asc_tail h) e
    · have ih := lookup_filt (asc_tail h) e
      have := asc_lt h _ (lookup_mem ih)
      rw [List.lookup_cons]
      have hne : (a == b) = false := by
        simp only [beq_eq_false_iff_ne, ne_eq]
        intro z
        rw [z] at this
        exact Nat.lt_irrefl _ this
      rw [hne]
      exact ih
theorem in_filt {K : PySem.W.Frag} {h : Heap} (hs : ascB K = true) (X : K.In h) : (filtK K).In h := fun a o e => X a o (lookup_filt hs e)
/-- walk_of over the part without such tuples -/
theorem walk_ofE {l : PySem.W.OpenLaw} {n k : Nat} {q : Program} {loose : List Str} {XP : (Str → Option Value) → Heap → Prop} {YP : World → Heap → Prop} {d : DefRec} {K : Params → PySem.W.Frag} {CX : World → L2.CXT} {sp : World → L2.Sp} {x : Str}
    (hn : l.most = some n) (hn2 : n ≤ sizeLine) (hdf : d.params.defaults = []) (hr : L2.Room k callerA)
    (hY : ∀ (w : World) (h : Heap), YP w h → (K w.params).In h) (hs : ∀ w : World, ascB (K w.params) = true)
    (F : ∀ (w : World) (mg : Str → Option Value) (fa : Addr) (h : Heap), (filtK (K w.params)).In h → h.Ns mainGlobals mg → mg d.name = some (.ref fa) →
      ∃ fd : FuncData, (∀ (s : Shared) (u : Value), BindsTo s fd ⟨[u], []⟩ [(x, u)]) ∧
        ∀ base : Heap, (filtK (K w.params)).In base → base.Ns mainGlobals mg → L2.FnOk l.prog w (filtK (K w.params)) mg base (CX w) k fa fd [x] (sp w))
    (hsp : ∀ (w : World) (H : Hp) (a : Addr) (ns : List Int), ns.length ≤ n → L2.Only H → SqL (filtK (K w.params)) H a (ns.map V.int) → sp w [.ref a] H (fun v _ => v = .bl true) fun _ _ _ => False)
    (hCX : ∀ (w : World) (H : Hp) (s : Shared) (e : Value) (s' : Shared), CX w [] H s (fun _ _ _ => False) e s' → False) :
    PySem.W.WalkO q loose XP YP l.row.toRowW d [] (fun f vs => PySem.call f vs) :=
  L2.walk_of (K := fun p => filtK (K p)) hn hn2 hdf hr (fun w h Y => in_filt (hs w) (hY w h Y)) F hsp hCX
theorem keysT_low {K : PySem.W.Frag} {h : Hp} : ∀ {vs : List V} {ds : List PyData} {ks : List Key}, DpAll K h vs ds → keysT ds = some ks → vs = ks.map kV
  | _, _, _, .nil, e => by cases e; rfl
  | _, _, _, .cons (v := v) (e := d) p ps, e => by
    unfold keysT at e
    split at e
    · rename_i k ks h1 h2
      cases e
      rw [List.map_cons, ← keysT_low ps h2]
      congr 1
      cases d <;> simp only [key3] at h1 <;> first | cases h1 | skip
      · cases p; rfl
      · cases p; rfl
    · cases e
/-- the key that a value stands for -/
def keyT : D → Option (List Key)
  | .p (.tuple []) => some []
  | .p (.tuple (.int i :: ds)) => keysT (.int i :: ds)
  | _ => none
theorem keyT_low {K : PySem.W.Frag} {w : W3} {H : Hp} {S : S3} {v : V} {d : D} {ks : List Key} (hK : NoTK K) (r : Rel3 K w H S) (p : RepD K w v d) (h : keyT d = some ks) : ∃ b, v = .ref b ∧ H b = some (.tup (ks.map kV)) := by
  have go : ∀ ds : List PyData, Dp K w.h v (.tuple ds) → keysT ds = some ks → (ks = [] ∨ ∃ (i : Int) (r : List Key), ks = .inl i :: r) → ∃ b, v = .ref b ∧ H b = some (.tup (ks.map kV)) := fun ds p' h hk => by
    cases p' with
    | @tup b xs _ hs ha =>
      have e := keysT_low ha h
      subst e
      refine ⟨b, rfl, ?_⟩
      rcases hs with (hs | ⟨o, hs⟩) | ⟨o, its, n, hk', hc, hd, _, hv⟩
      · exact r.sub _ _ hs
      · exact (r.sz _ _ hs).elim
      · exact (hK b o its n ks hk hk' hc hd hv).elim
  unfold keyT at h
  split at h
  · cases h
    exact go [] p rfl (.inl rfl)
  · rename_i i ds
    refine go _ p h (.inr ?_)
    unfold keysT at h
    split at h
    · rename_i h1 _
      cases h1
      cases h
      exact ⟨_, _, rfl⟩
    · cases h
  · cases h
def valE {κ β : Type} [DecidableEq κ] (kvs : List (κ × β)) (k : κ) : Option β := (kvs.find? fun kv => decide (kv.1 = k)).map (·.2)
def putE {κ β : Type} [DecidableEq κ] (kvs : List (κ × β)) (k : κ) (v : β) : List (κ × β) :=
  if (kvs.any fun kv => decide (kv.1 = k)) = true then kvs.map (fun kv => if kv.1 = k then (kv.1, v) else kv) else kvs ++ [(k, v)]
def dic3 (S : S3) : D → Option (Nat × List (List Key × PyData))
  | .loc n => match S[n]? with
    | some (some (.dic kvs)) => some (n, kvs)
    | _ => none
  | _ => none
abbrev KtR (K : PySem.W.Frag) (h : Hp) : List Key × V → List Key × PyData → Prop := fun p q => p.1 = q.1 ∧ Dp K h p.2 q.2
theorem dic3_low {K : PySem.W.Frag} {w : W3} {H : Hp} {S : S3} {v : V} {d : D} {n : Nat} {kvs : List (List Key × PyData)} (r : Rel3 K w H S) (p : RepD K w v d) (h : dic3 S d = some (n, kvs)) :
    ∃ a kxs, v = .ref a ∧ d = .loc n ∧ w.al[n]? = some a ∧ S[n]? = some (some (.dic kvs)) ∧ H a = some (.dT kxs) ∧ Paired (KtR K w.h) kxs kvs := by
  unfold dic3 at h
  split at h
  · split at h
    · rename_i es hs
      cases h
      obtain ⟨a, ha, rfl⟩ := p
      obtain ⟨_, u, hu, kxs, rfl, hp⟩ := r.live n a _ ha hs
      exact ⟨a, kxs, rfl, rfl, ha, hs, hu, hp⟩
    · cases h
  · cases h
theorem pt_val {K : PySem.W.Frag} {h : Hp} {k : List Key} : ∀ {kxs : List (List Key × V)} {kvs : List (List Key × PyData)}, Paired (KtR K h) kxs kvs → (valE kvs k = none ∧ valV kxs k = none) ∨ ∃ d v, valE kvs k = some d ∧ valV kxs k = some v ∧ Dp K h v d
  | _, _, .nil => .inl ⟨rfl, rfl⟩
  | _, _, .cons (a := p) (b := q) (l₁ := xs) (l₂ := ys) r rs => by
    by_cases e : q.1 = k
    · refine .inr ⟨q.2, p.2, ?_, ?_, r.2⟩
      · simp [valE, List.find?_cons, e]
      · simp [valV, List.find?_cons, r.1.trans e]
    · have e' : ¬ p.1 = k := fun z => e (r.1 ▸ z)
      have a : valE (q :: ys) k = valE ys k := by simp only [valE, List.find?_cons, e, decide_false]
      have b : valV (p :: xs) k = valV xs k := by simp only [valV, List.find?_cons, e', decide_false]
      rw [a, b]
      exact pt_val rs
theorem pt_any {K : PySem.W.Frag} {h : Hp} {k : List Key} : ∀ {kxs : List (List Key × V)} {kvs : List (List Key × PyData)}, Paired (KtR K h) kxs kvs → (kxs.any fun kv => decide (kv.1 = k)) = kvs.any fun kv => decide (kv.1 = k)
  | _, _, .nil => rfl
  | _, _, .cons r rs => by rw [List.any_cons, List.any_cons, r.1, pt_any rs]
theorem pt_map {K : PySem.W.Frag} {h : Hp} {k : List Key} {v : V} {d : PyData} (hd : Dp K h v d) : ∀ {kxs : List (List Key × V)} {kvs : List (List Key × PyData)}, Paired (KtR K h) kxs kvs → Paired (KtR K h) (kxs.map fun kv => if kv.1 = k then (kv.1, v) else kv) (kvs.map fun kv => if kv.1 = k then (kv.1, d) else kv)
  | _, _, .nil => .nil
  | _, _, .cons (a := p) (b := q) r rs => by
    rw [List.map_cons, List.map_cons]
    refine .cons ?_ (pt_map hd rs)
    by_cases e : q.1 = k
    · rw [if_pos e, if_pos (r.1.trans e)]
      exact ⟨r.1, hd⟩
    · rw [if_neg e, if_neg fun z => e (r.1 ▸ z)]
      exact r
theorem pt_app {K : PySem.W.Frag} {h : Hp} : ∀ {kxs lxs : List (List Key × V)} {kvs lvs : List (List Key × PyData)}, Paired (KtR K h) kxs kvs → Paired (KtR K h) lxs lvs → Paired (KtR K h) (kxs ++ lxs) (kvs ++ lvs)
  | _, _, _, _, .nil, s => s
  | _, _, _, _, .cons r rs, s => .cons r (pt_app rs s)
theorem pt_put {K : PySem.W.Frag} {h : Hp} {k : List Key} {v : V} {d : PyData} {kxs : List (List Key × V)} {kvs : List (List Key × PyData)} (p : Paired (KtR K h) kxs kvs) (hd : Dp K h v d) : Paired (KtR K h) (putK kxs k v) (putE kvs k d) := by
  unfold putK putE
  rw [pt_any p]
  split
  · exact pt_map hd p
  · exact pt_app p (.cons ⟨rfl, hd⟩ .nil)
theorem pt_len {K : PySem.W.Frag} {h : Hp} : ∀ {kxs : List (List Key × V)} {kvs : List (List Key × PyData)}, Paired (KtR K h) kxs kvs → kxs.length = kvs.length
  | _, _, .nil => rfl
  | _, _, .cons _ rs => congrArg (· + 1) (pt_len rs)
/-- {} of tuple keys -/
def tTNew3 : TE3 := fun _ S Q => Q (.loc S.length) (S ++ [some (.dic [])])
/-- d[k] -/
def tTGet3 (to ti : TE3) : TE3 := fun env S Q => to env S fun o S1 => ti env S1 fun i S2 => match dic3 S2 o with
  | some (_, kvs) => (match keyT i with
    | some k => (match valE kvs k with
      | some v => Q (.p v) S2
      | none => False)
    | none => False)
  | _ => False
/-- d[k] = e -/
def tTPut3 (te to ti : TE3) : TS3 := fun D env S => te env S fun v S1 => to env S1 fun o S2 => ti env S2 fun i S3 => match dic3 S3 o, v with
  | some (n, kvs), .p x => (match keyT i with
    | some k => kvs.length < 16777216 ∧ D.nx env (S3.set n (some (.dic (putE kvs k x))))
    | none => False)
  | _, _ => False
/-- k in d, k not in d -/
def tTIn3 (neg : Bool) (ti to : TE3) : TE3 := fun env S Q => ti env S fun i S1 => to env S1 fun o S2 => match dic3 S2 o with
  | some (_, kvs) => (match keyT i with
    | some k => Q (.p (.bool (if neg then !(valE kvs k).isSome else (valE kvs k).isSome))) S2
    | none => False)
  | _ => False
section
variable {X : Cx} {o i e : Expr} {to ti te : TE3} {pos pos' : Pos}
theorem qe_tnew : QE X (.Dict [] [] pos) tTNew3 := L2.PE.imp pe_dnewT fun σ H R ⟨w, env, S, Q, r0, en, t, q⟩ => fun p hn => by
  obtain ⟨r2, e2⟩ := r0.push (u := .dT []) (o := .dic []) hn ⟨[], rfl, .nil⟩
  refine q _ (.ref p) (.loc S.length) _ _ e2 r2 ⟨p, ?_, rfl⟩ t
  show (w.al ++ [p])[S.length]? = some p
  rw [← r0.len, List.getElem?_append_right (Nat.le_refl _)]
  simp
theorem qe_tget (hK : NoTK X.K) (hu : X.A.units + 64 < cLine) (ho : QE X o to) (hi : QE X i ti) (hs : NoSl i) : QE X (.Subscript o i pos) (tTGet3 to ti) := L2.PE.imp (pe_dget (by omega) ho hi hs) fun σ H R ⟨w, env, S, Q, r0, en, t, q⟩ => by
  refine ⟨w, env, S, _, r0, en, t, fun w1 v d H1 S1 e1 r1 p1 t1 => ?_⟩
  refine ⟨w1, env, S1, _, r1, en.mono e1, t1, fun w2 u c H2 S2 e2 r2 p2 t2 => ?_⟩
  split at t2
  · rename_i n kvs ho'
    split at t2
    · rename_i k hk
      split at t2
      · rename_i x hx
        obtain ⟨a, kxs, rfl, rfl, ha, hs', hH, hp⟩ := dic3_low r2 (p1.mono e2) ho'
        obtain ⟨b, rfl, hb⟩ := keyT_low hK r2 p2 hk
        rcases pt_val (k := k) hp with ⟨h1, _⟩ | ⟨d', v', h1, h2, h3⟩
        · rw [hx] at h1; cases h1
        · rw [hx] at h1
          cases h1
          refine ⟨a, v', rfl, ?_, (q.mono (e1.trans e2)).old (d := .p x) r2 h3 t2⟩
          rw [← h2]
          exact DGet.t hH hb
      · exact t2.elim
    · exact t2.elim
  · exact t2.elim
theorem qs_tput (hK : NoTK X.K) (hu : X.A.units + 64 < cLine) (he : QE X e te) (ho : QE X o to) (hi : QE X i ti) (hs : swapsWith e (some (.Subscript o i pos')) pos.line X.env = pure false := by rfl) : QS X (.Assign [.Subscript o i pos'] e pos) (tTPut3 te to ti) :=
  L2.PS.imp (ps_dput (by omega) ho hi he hs) fun D σ H ⟨w, env, S, D3, r0, en, t, q⟩ => by
    have hz : sizeLine = 16777216 := sizeLine_eq
    refine ⟨w, env, S, _, r0, en, t, fun w1 v d H1 S1 e1 r1 p1 t1 => ?_⟩
    refine ⟨w1, env, S1, _, r1, en.mono e1, t1, fun w2 u c H2 S2 e2 r2 p2 t2 => ?_⟩
    refine ⟨w2, env, S2, _, r2, (en.mono e1).mono e2, t2, fun w3 z b H3 S3 e3 r3 p3 t3 => ?_⟩
    split at t3
    · rename_i n kvs x ho'
      split at t3
      · rename_i k hk
        obtain ⟨a, kxs, rfl, rfl, ha, hs', hH, hp⟩ := dic3_low r3 (p2.mono e3) ho'
        obtain ⟨b', rfl, hb⟩ := keyT_low hK r3 p3 hk
        have hl := pt_len hp
        have p1' : RepD X.K w3 v (.p x) := (p1.mono e2).mono e3
        obtain ⟨t31, t3⟩ := t3
        refine ⟨a, _, rfl, DPut.t hH hb (by omega), ?_⟩
        exact q.nx w3 σ _ env _ ((e1.trans e2).trans e3) (r3.put (o' := .dic (putE kvs k x)) ha hs' ⟨_, rfl, pt_put hp p1'⟩) (((en.mono e1).mono e2).mono e3) t3
      · exact t3.elim
    · exact t3.elim
theorem tin_low {K : PySem.W.Frag} {neg : Bool} {σ : L2.St} {H : Hp} {R : VK} (hK : NoTK K) (h : low K (tTIn3 neg ti to) σ H R) : low K ti σ H fun y H1 => low K to σ H1 fun x H2 => ∃ a o, x = .ref a ∧ DGet H2 a y o ∧ R (.bl (if neg then !o.isSome else o.isSome)) H2 := by
  obtain ⟨w, env, S, Q, r0, en, t, q⟩ := h
  refine ⟨w, env, S, _, r0, en, t, fun w1 v d H1 S1 e1 r1 p1 t1 => ?_⟩
  refine ⟨w1, env, S1, _, r1, en.mono e1, t1, fun w2 u c H2 S2 e2 r2 p2 t2 => ?_⟩
  split at t2
  · rename_i n kvs ho'
    split at t2
    · rename_i k hk
      obtain ⟨a, kxs, rfl, rfl, ha, hs', hH, hp⟩ := dic3_low r2 p2 ho'
      obtain ⟨b, rfl, hb⟩ := keyT_low hK r2 (p1.mono e2) hk
      refine ⟨a, _, rfl, DGet.t hH hb, ?_⟩
      have e : (valV kxs k).isSome = (valE kvs k).isSome := by
        rcases pt_val (k := k) hp with ⟨h1, h2⟩ | ⟨d', v', h1, h2, _⟩ <;> rw [h1, h2] <;> rfl
      rw [e]
      exact (q.mono (e1.trans e2)).bl r2 t2
    · exact t2.elim
  · exact t2.elim
theorem qe_tin (hK : NoTK X.K) (hu : X.A.units + 64 < cLine) (hi : QE X i ti) (ho : QE X o to) (h1 : behindInMarks .In o = false := by rfl) : QE X (.Compare i [.In] [o] pos) (tTIn3 false ti to) :=
  L2.PE.imp (pe_cmp (pc_din (by omega) hi ho) h1) fun σ H R h => tin_low hK h
theorem qe_tnotin (hK : NoTK X.K) (hu : X.A.units + 64 < cLine) (hi : QE X i ti) (ho : QE X o to) (h1 : behindInMarks .NotIn o = false := by rfl) : QE X (.Compare i [.NotIn] [o] pos) (tTIn3 true ti to) :=
  L2.PE.imp (pe_cmp (pc_dnotin (by omega) hi ho) h1) fun σ H R h => tin_low hK h
theorem qt_tin (hK : NoTK X.K) (hu : X.A.units + 64 < cLine) (hi : QE X i ti) (ho : QE X o to) (h1 : behindInMarks .In o = false := by rfl) : QT X (.Compare i [.In] [o] pos) (tTest3 (tTIn3 false ti to)) :=
  L2.PT.imp (pt_cmp (pc_din (by omega) hi ho) h1) fun σ H R h => test_low (t := tTIn3 false ti to) (t2 := fun σ H R' => low X.K (tTIn3 false ti to) σ H R') (fun R' q => q) h |> fun z => tin_low hK z
theorem qt_tnotin (hK : NoTK X.K) (hu : X.A.units + 64 < cLine) (hi : QE X i ti) (ho : QE X o to) (h1 : behindInMarks .NotIn o = false := by rfl) : QT X (.Compare i [.NotIn] [o] pos) (tTest3 (tTIn3 true ti to)) :=
  L2.PT.imp (pt_cmp (pc_dnotin (by omega) hi ho) h1) fun σ H R h => test_low (t := tTIn3 true ti to) (t2 := fun σ H R' => low X.K (tTIn3 true ti to) σ H R') (fun R' q => q) h |> fun z => tin_low hK z
end
end L3

namespace L3
open PySem PySem.Spec PyProof.Rows L2
/-! ### xs.insert(i, x); xs.index(k), of ints -/
theorem dpInts {K : PySem.W.Frag} {h : Hp} : ∀ {ns : List Int} {vs : List V}, DpAll K h vs (ns.map PyData.int) → vs = ns.map V.int
  | [], _, p => by cases p; rfl
  | n :: ns, _, p => by
    cases p with
    | cons p ps =>
      cases p
      rw [dpInts ps]
      rfl
def tIns3 (to ti te : TE3) : TE3 := fun env S Q => to env S fun o S1 => match own3 S1 o with
  | some _ => ti env S1 fun i S2 => te env S2 fun v S3 => match own3 S3 o, i, v with
    | some (n, ds), .p (.int k), .p d => (ds.length < 16777216 ∧ 0 ≤ k ∧ k < 9223372036854775808) ∧ Q (.p .none) (S3.set n (some (.lst (ds.take k.toNat ++ [d] ++ ds.drop k.toNat))))
    | _, _, _ => False
  | none => False
def tIdxL3 (to te : TE3) : TE3 := fun env S Q => to env S fun o S1 => ∃ ds, o = .p (.list ds) ∧ te env S1 fun v S2 => match v with
  | .p (.int k) => ∃ ns : List Int, ds = ns.map PyData.int ∧ k ∈ ns ∧ Q (.p (.int (ns.idxOf k : Nat))) S2
  | _ => False
section
variable {X : Cx} {o e e2 : Expr} {to te te2 : TE3} {apos cpos : Pos}
theorem qe_insert (ho : QE X o to) (he : QE X e te) (he2 : QE X e2 te2) (hbase : attributeBase o "insert" X.env (eval o X.env) = eval o X.env := by rfl)
    (hfew : ((backTo cpos (starEach [e, e2] X.env)).all (fun x => !x.1) && (backToKw cpos (keywordEach [] X.env)).all (fun x => x.1.isSome)
      && decide (([e, e2] : List Expr).length + ([] : List Keyword).length + (if ([] : List Keyword).isEmpty then 0 else 1) < 30)) = true := by rfl)
    (hline : (apos.endLine == cpos.line) = true := by rfl) (hs : starEach [e, e2] X.env = (false, eval e X.env) :: starEach [e2] X.env := by rfl) (hs2 : starEach [e2] X.env = (false, eval e2 X.env) :: starEach [] X.env := by rfl) (hplain : (backTo cpos (starEach [e2] X.env)).any (·.1) = false := by rfl) :
    QE X (.Call (.Attribute o "insert" apos) [e, e2] [] cpos) (tIns3 to te te2) :=
  (pe_bm PySem.F.plainAttrs_list PySem.F.slot_list_insert PySem.F.type_list_insert mt_insert ho (pa_cons he (pa_cons he2 pa_nil hs2) hs) hbase hfew hline hs hplain).imp fun σ H R ⟨w, env, S, Q, r0, en, t, q⟩ => by
    have hz : sizeLine = 16777216 := sizeLine_eq
    refine ⟨w, env, S, _, r0, en, t, fun w1 v d H1 S1 e1 r1 p1 t1 => ?_⟩
    split at t1
    · rename_i nd ho1
      obtain ⟨n0, ds0⟩ := nd
      obtain ⟨a0, xs0, rfl, hd0, _, _, hu0, _, _⟩ := own3_low r1 p1 ho1
      refine ⟨.inl ⟨rfl, xs0, .inl (.inl hu0)⟩, ?_⟩
      refine ⟨w1, env, S1, _, r1, en.mono e1, t1, fun w2 u c H2 S2 e2 r2 p2 t2 => ?_⟩
      refine ⟨w2, env, S2, _, r2, (en.mono e1).mono e2, t2, fun w3 z b H3 S3 e3 r3 p3 t3 => ?_⟩
      split at t3
      · rename_i n ds k d' ho3
        obtain ⟨a, xs, hva, rfl, ha, hs, hu, hd, hzz⟩ := own3_low r3 ((p1.mono e2).mono e3) ho3
        cases hva
        have hl := DpAll.length hd
        have hu' := dp_int p2
        subst hu'
        refine ⟨_, xs, k, z, rfl, rfl, hu, by omega, t3.1.2.1, t3.1.2.2, ?_⟩
        exact q w3 .non (.p .none) _ _ ((e1.trans e2).trans e3) (r3.put (o' := .lst (ds.take k.toNat ++ [d'] ++ ds.drop k.toNat)) ha hs ⟨_, rfl, DpAll.append (DpAll.append (DpAll.take _ hd) (.cons p3 .nil)) (DpAll.drop _ hd), by
          rw [List.length_append, List.length_append, List.length_take, List.length_drop, List.length_singleton]
          omega⟩) rep_non t3.2
      · exact t3.elim
    · exact t1.elim
theorem mt_idxL : MtR X "list.index" (fun x xs H Q => ∃ (p : Addr) (ns : List Int) (k : Int), x = .ref p ∧ xs = [.int k] ∧ SqL X.K H p (ns.map V.int) ∧ k ∈ ns ∧ Q (.int (ns.idxOf k : Nat)) H) := by
  intro pins s σ H x xs v us Q I rx rs h
  obtain ⟨p, ns, k, rfl, rfl, hq, hk, q⟩ := h
  cases rx
  obtain ⟨u, rfl, t, rfl⟩ := vals1 rs
  obtain ⟨its, r, pl, hz⟩ := I.list hq
  exact PySem.SeqAt.list_index_ints (vs := its) pl.isList r.ints (by rw [List.length_map] at hz; exact hz) hk ⟨.int _, H, I.tok _, ⟨_, rfl⟩, q⟩
theorem qe_idxL (ho : QE X o to) (he : QE X e te) (hbase : attributeBase o "index" X.env (eval o X.env) = eval o X.env := by rfl)
    (hfew : ((backTo cpos (starEach [e] X.env)).all (fun x => !x.1) && (backToKw cpos (keywordEach [] X.env)).all (fun x => x.1.isSome)
      && decide (([e] : List Expr).length + ([] : List Keyword).length + (if ([] : List Keyword).isEmpty then 0 else 1) < 30)) = true := by rfl)
    (hline : (apos.endLine == cpos.line) = true := by rfl) (hs : starEach [e] X.env = (false, eval e X.env) :: starEach [] X.env := by rfl) (hplain : (backTo cpos (starEach [] X.env)).any (·.1) = false := by rfl) :
    QE X (.Call (.Attribute o "index" apos) [e] [] cpos) (tIdxL3 to te) :=
  (pe_bm PySem.F.plainAttrs_list PySem.F.slot_list_index PySem.F.type_list_index mt_idxL ho (pa_cons he pa_nil hs) hbase hfew hline hs hplain).imp fun σ H R ⟨w, env, S, Q, r0, en, t, q⟩ => by
    refine ⟨w, env, S, _, r0, en, t, fun w1 v d H1 S1 e1 r1 p1 t1 => ?_⟩
    obtain ⟨ds, rfl, t1⟩ := t1
    have p1' : Dp X.K w1.h v (.list ds) := p1
    cases p1' with
    | @lst a xs _ hs0 ha0 =>
    refine ⟨.inl ⟨rfl, xs, L2.Same.seq r1.sub hs0⟩, ?_⟩
    refine ⟨w1, env, S1, _, r1, en.mono e1, t1, fun w2 u c H2 S2 e2 r2 p2 t2 => ?_⟩
    split at t2
    · rename_i k
      obtain ⟨ns, rfl, hk, t2⟩ := t2
      have hx := dpInts ha0
      subst hx
      have hu' := dp_int p2
      subst hu'
      exact ⟨a, ns, k, rfl, rfl, L2.Same.seq r2.sub (L2.Same.seq e2.h hs0), hk, (q.mono (e1.trans e2)).int r2 t2⟩
    · exact t2.elim
end
end L3

namespace L3
open PySem PySem.Spec PyProof.Rows L2
/-! ### own lists of own lists -/
abbrev LrR (K : PySem.W.Frag) (w : W3) (n : Nat) : V → D → Prop := fun v d => RepD K w v d ∧ under n d
def lls3 (S : S3) : D → Option (Nat × List D)
  | .loc n => match S[n]? with
    | some (some (.lls ds)) => some (n, ds)
    | _ => none
  | _ => none
theorem lls3_low {K : PySem.W.Frag} {w : W3} {H : Hp} {S : S3} {v : V} {d : D} {n : Nat} {ds : List D} (r : Rel3 K w H S) (p : RepD K w v d) (h : lls3 S d = some (n, ds)) :
    ∃ a xs, v = .ref a ∧ d = .loc n ∧ w.al[n]? = some a ∧ S[n]? = some (some (.lls ds)) ∧ H a = some (.lst xs) ∧ Paired (LrR K w n) xs ds ∧ ds.length ≤ sizeLine := by
  unfold lls3 at h
  split at h
  · split at h
    · rename_i es hs
      cases h
      obtain ⟨a, ha, rfl⟩ := p
      obtain ⟨_, u, hu, xs, rfl, hp, hz⟩ := r.live n a _ ha hs
      exact ⟨a, xs, rfl, rfl, ha, hs, hu, hp, hz⟩
    · cases h
  · cases h
theorem lp_mono {K : PySem.W.Frag} {w w' : W3} {n n' : Nat} (e : Ex0 w w') (hn : n ≤ n') {xs : List V} {ds : List D} (h : Paired (LrR K w n) xs ds) : Paired (LrR K w' n') xs ds := Paired.mapP h fun v d z => ⟨z.1.mono0 e, by
  cases d with
  | p d => trivial
  | exc c => trivial
  | loc m => exact Nat.lt_of_lt_of_le z.2 hn⟩
theorem lp_snoc {K : PySem.W.Frag} {w : W3} {n : Nat} {v : V} {d : D} (hd : LrR K w n v d) : ∀ {xs : List V} {ds : List D}, Paired (LrR K w n) xs ds → Paired (LrR K w n) (xs ++ [v]) (ds ++ [d])
  | _, _, .nil => .cons hd .nil
  | _, _, .cons r rs => .cons r (lp_snoc hd rs)
theorem lp_len {K : PySem.W.Frag} {w : W3} {n : Nat} : ∀ {xs : List V} {ds : List D}, Paired (LrR K w n) xs ds → xs.length = ds.length
  | _, _, .nil => rfl
  | _, _, .cons _ rs => congrArg (· + 1) (lp_len rs)
/-- name = [e for ..], each e an own list -/
def tSetLL3 (y : Nat) (ti : TI3) (T : Tg) (tt : TT3) (te : TE3) (vs : List Nat) : TS3 := fun D env S => ti env S fun xs ok S1 => ∃ I : Nat → List L3.D → S3 → Prop, I 0 [] S1 ∧ (∀ i acc s, I i acc s → ok s) ∧
  (∀ i x acc s, xs[i]? = some x → I i acc s → match bind3 T x (wipe3 env vs) with
    | some e2 => tt e2 s fun b s1 => if b = true then te e2 s1 fun y s2 => s.length ≤ s2.length ∧ under s2.length y ∧ I (i + 1) (acc ++ [y]) s2 else s.length ≤ s1.length ∧ I (i + 1) acc s1
    | none => False) ∧ ∀ acc s, I xs.length acc s → D.nx (set3 env y (.loc s.length)) (s ++ [some (.lls acc)])
theorem ll_low {K : PySem.W.Frag} {ti : TI3} {T : Tg} {tt : TT3} {te : TE3} {vs : List Nat} {σ : L2.St} {H : Hp} {R : VK} {y : Nat} {D2 : Ends} (hv : ∀ i ∈ T.slots, i ∈ vs) (h : ∃ w env S D3, Rel3 K w H S ∧ EnvR K w σ env ∧ tSetLL3 y ti T tt te vs D3 env S ∧ EndS K w D3 D2) : tLc (lowI K ti) (g2 K T) (lowT K tt) (low K te) vs σ H fun x H1 => gName y x σ H1 D2.nx := by
  obtain ⟨w, env, S, D3, r0, en, t, q⟩ := h
  refine ⟨w, env, S, _, r0, en, t, fun w1 J H1 S1 xs ok e1 r1 hJ hz t1 => fun D hD => ?_⟩
  obtain ⟨I, h0, hok, hs, hd⟩ := t1
  refine ⟨fun i m H => i ≤ xs.length ∧ m = xs.length - i ∧ ∃ al h s acc ys, Ex0 w1 ⟨al, h, (D, .lst ys) :: w1.pn⟩ ∧ Rel3 K ⟨al, h, (D, .lst ys) :: w1.pn⟩ H s ∧ Paired (LrR K ⟨al, h, (D, .lst ys) :: w1.pn⟩ s.length) ys acc ∧ acc.length ≤ i ∧ I i acc s,
    ⟨_, Nat.zero_le _, rfl, w1.al, w1.h, S1, [], [], ⟨⟨[], by simp⟩, Same.refl _⟩, r1.pinNew hD, .nil, Nat.le_refl _, h0⟩, ?_⟩
  rintro i m H2 ⟨hi, rfl, al, h, s, acc, ys, e2, r2, da, hacc, h2⟩
  obtain ⟨hstop, hgo⟩ := hJ _ H2 s e2 r2 (hok i acc s h2)
  by_cases hlt : i < xs.length
  · obtain ⟨go, hy⟩ := hgo i xs[i] (List.getElem?_eq_getElem hlt)
    refine .inr ⟨go, fun H' => ∃ al h s acc ys, Ex0 w1 ⟨al, h, (D, .lst ys) :: w1.pn⟩ ∧ Rel3 K ⟨al, h, (D, .lst ys) :: w1.pn⟩ H' s ∧ Paired (LrR K ⟨al, h, (D, .lst ys) :: w1.pn⟩ s.length) ys acc ∧ acc.length ≤ i + 1 ∧ I (i + 1) acc s,
      fun H' ⟨al, h, s, acc, ys, a1, a2, a3, a4, a5⟩ => ⟨xs.length - (i + 1), by omega, hlt, rfl, al, h, s, acc, ys, a1, a2, a3, a4, a5⟩, fun x H' y => ?_⟩
    obtain ⟨w3, e3, r3, d3⟩ := hy x H' y
    have step := hs i xs[i] acc s (List.getElem?_eq_getElem hlt) h2
    cases hbd : bind3 T xs[i] (wipe3 env vs) with
    | none => rw [hbd] at step; exact step.elim
    | some env3 =>
      rw [hbd] at step
      have en3 : EnvR K w3 (wipe σ vs) (wipe3 env vs) := (((en.mono e1).mono0 e2).mono e3).wipe vs
      refine bind_low r3 vs T xs[i] x _ _ env3 hv en3 d3 hbd _ fun σ3 en4 hw => ⟨?_, ?_⟩
      · have ww : ∀ vs' : List Nat, (∀ i ∈ vs', i ∈ vs) → wipe (wipe σ vs) vs' = wipe σ vs := by
          intro vs'
          induction vs' with
          | nil => intro _; rfl
          | cons v vs' ih =>
            intro hsub
            show (wipe (wipe σ vs) vs').set v none = wipe σ vs
            rw [ih fun i hi => hsub i (List.mem_cons_of_mem _ hi)]
            have : ∀ (vs : List Nat), v ∈ vs → (wipe σ vs).set v none = wipe σ vs := by
              intro vs
              induction vs with
              | nil => intro h; cases h
              | cons u vs ih =>
                intro hm
                show ((wipe σ vs).set u none).set v none = (wipe σ vs).set u none
                by_cases e : v = u
                · subst e
                  rw [List.set_set]
                · have hm' : v ∈ vs := (List.mem_cons.mp hm).resolve_left e
                  rw [List.set_comm _ _ (Ne.symm e), ih hm']
            exact this vs (hsub v List.mem_cons_self)
        exact hw.trans (ww vs fun _ h => h)
      · refine ⟨w3, env3, s, _, r3, en4, step, fun w4 b H4 s4 e4 r4 t4 => ?_⟩
        obtain ⟨al4, h4, pn4⟩ := w4
        have hpn : pn4 = (D, .lst ys) :: w1.pn := by
          have a := e4.pn
          have b := e3.pn
          exact a.trans b
        subst hpn
        have e24 : Ex0 w1 ⟨al4, h4, (D, .lst ys) :: w1.pn⟩ := (e2.trans e3.toEx0).trans e4.toEx0
        cases b with
        | false =>
          rw [if_neg Bool.false_ne_true] at t4 ⊢
          exact ⟨al4, h4, s4, acc, ys, e24, r4, lp_mono (e3.toEx0.trans e4.toEx0) t4.1 da, by omega, t4.2⟩
        | true =>
          rw [if_pos rfl] at t4 ⊢
          refine ⟨_, env3, s4, _, r4, en4.mono e4, t4, fun w5 v d H5 s5 e5 r5 p5 t5 => ?_⟩
          obtain ⟨al5, h5, pn5⟩ := w5
          have hpn : pn5 = (D, .lst ys) :: w1.pn := e5.pn
          subst hpn
          have hl := lp_len da
          obtain ⟨t51, t52, t53⟩ := t5
          refine ⟨ys, (r5.pin D _ List.mem_cons_self).1, by omega, al5, h5, s5, acc ++ [d], ys ++ [v], ?_, r5.repin, ?_, ?_, t53⟩
          · exact ⟨(e24.trans e5.toEx0).al, (e24.trans e5.toEx0).h⟩
          · have da5 := lp_mono (n' := s5.length) ((e3.toEx0.trans e4.toEx0).trans e5.toEx0) t51 da
            have := lp_snoc (d := d) (v := v) ⟨p5, t52⟩ da5
            exact lp_mono (w := ⟨al5, h5, (D, .lst ys) :: w1.pn⟩) ⟨⟨[], by simp⟩, Same.refl _⟩ (Nat.le_refl _) this
          · rw [List.length_append, List.length_singleton]
            omega
  · have e' : i = xs.length := by omega
    subst e'
    obtain ⟨r3, hdn, hup⟩ := r2.unpin
    refine .inl ⟨hstop _ (Nat.le_refl _), ?_⟩
    rw [← hup]
    have da3 : Paired (LrR K ⟨al, h, w1.pn⟩ s.length) ys acc := lp_mono (w := ⟨al, h, (D, .lst ys) :: w1.pn⟩) ⟨⟨[], by simp⟩, Same.refl _⟩ (Nat.le_refl _) da
    obtain ⟨r4, e4⟩ := r3.push (a := D) (u := .lst ys) (o := .lls acc) hdn ⟨ys, rfl, da3, by omega⟩
    have e12 : Ex3 w1 ⟨al, h, w1.pn⟩ := ⟨⟨e2.al, e2.h⟩, rfl⟩
    have e14 : Ex3 w ⟨al ++ [D], h, w1.pn⟩ := (e1.trans e12).trans e4
    have hS : al.length = s.length := r3.len
    refine q.nx _ _ _ _ _ e14 r4 ((en.mono e14).set (d := .loc s.length) y ⟨D, ?_, rfl⟩) (hd acc s h2)
    show (al ++ [D])[s.length]? = some D
    rw [← hS, List.getElem?_append_right (Nat.le_refl _)]
    simp
section
variable {X : Cx} {elt tg iter : Expr} {ifs : List Expr} {scope : Scope} {own : List (Str × Nat)} {pos : Pos} {ti : TI3} {T : Tg} {tt : TT3} {te : TE3}
theorem qs_setLL {i : Nat} {y : Str} {py spos : Pos} (hc : X.calm = true) (hN : X.N.Nodup) (hy : X.N[i]? = some y) (hyl : X.env.scope.names.lookup y = some .local)
    (hsw : swapsWith (.ListComp elt [⟨tg, iter, ifs, 0⟩] scope pos) (some (.Name y py)) spos.line X.env = pure true) (hi : QI X tg iter ti) (ok : BlkOk X.N X.env.scope scope own)
    (hg : ∀ (s : Shared) (H : Hp) (C : Addr) (cl : List (Str × Addr)) (fp : List Addr), QB (X.blk s H scope (compEnvC scope cl C X.env) fp) tg T) (ht : ∀ (s : Shared) (H : Hp) (C : Addr) (cl : List (Str × Addr)) (fp : List Addr), QTs (X.blk s H scope (compEnvC scope cl C X.env) fp) ifs tt)
    (he : ∀ (s : Shared) (H : Hp) (C : Addr) (cl : List (Str × Addr)) (fp : List Addr), QE (X.blk s H scope (compEnvC scope cl C X.env) fp) elt te) (hv : ∀ i ∈ T.slots, i ∈ own.map (·.2) := by decide) (hs : ∀ x, foldedSetIterable iter X.env x = pure x := by intro _; rfl) :
    QS X (.Assign [.Name y py] (.ListComp elt [⟨tg, iter, ifs, 0⟩] scope pos) spos) (tSetLL3 i ti T tt te (own.map (·.2))) := (ps_setLc hc hN hy hyl hsw hi ok hg ht he hs).imp fun D σ H ⟨w, env, S, D3, r0, en, t, q⟩ => ll_low (R := fun _ _ => True) hv ⟨w, env, S, D3, r0, en, t, q⟩
end
/-! xs[i], xs a list of own lists -/
theorem lp_get {K : PySem.W.Frag} {w : W3} {n : Nat} : ∀ {xs : List V} {ds : List D} {i : Nat} {d : D}, Paired (LrR K w n) xs ds → ds[i]? = some d → ∃ v, xs[i]? = some v ∧ RepD K w v d
  | _, _, i, _, .nil, e => by simp at e
  | _, _, 0, _, .cons r _, e => by
    simp at e
    subst e
    exact ⟨_, rfl, r.1⟩
  | _, _, i + 1, d, .cons _ rs, e => by
    obtain ⟨v, h1, h2⟩ := lp_get (i := i) rs (by simpa using e)
    exact ⟨v, by simpa using h1, h2⟩
def rIxL3 : R3 := fun x y S Q => match lls3 S x, y with
  | some (_, ds), .p (.int i) => (match ixN ds.length i with
    | some j => (match ds[j]? with
      | some d => Q d S
      | none => False)
    | none => False)
  | _, _ => False
theorem iq_lls {X : Cx} : IQ X rIxL3 := IxR.imp ix_seq fun x y H R ⟨w, S, d, e, Q, r0, p1, p2, t, q⟩ => by
  unfold rIxL3 at t
  split at t
  · rename_i n ds i h1
    have hy := dp_int p2
    subst hy
    split at t
    · rename_i j hj
      split at t
      · rename_i d' hd'
        obtain ⟨a, xs, rfl, rfl, ha, hs, hu, hp, hz⟩ := lls3_low r0 p1 h1
        obtain ⟨v, h2, h3⟩ := lp_get hp hd'
        refine .inl ⟨a, xs, _, v, rfl, rfl, .inl (.inl hu), ?_, q.old (d := d') r0 h3 t⟩
        unfold atI
        rw [lp_len hp, hj]
        exact h2
      · exact t.elim
    · exact t.elim
  · exact t.elim
/-! a list of own lists is said to change no more, with all that stands in it -/
theorem Rel3.freezeG {K : PySem.W.Frag} {w : W3} {H : Hp} {S : S3} (r : Rel3 K w H S) {n : Nat} {a : Addr} {o : O3} {xs : List V} {ds : List PyData} (ha : w.al[n]? = some a) (hs : S[n]? = some (some o)) (hu : H a = some (.lst xs)) (hd : DpAll K w.h xs ds) (hz : ds.length ≤ sizeLine) :
    Rel3 K ⟨w.al, upd w.h a (.lst xs), w.pn⟩ H (S.set n none) ∧ Ex3 w ⟨w.al, upd w.h a (.lst xs), w.pn⟩ ∧ Dp K (upd w.h a (.lst xs)) (.ref a) (.list ds) := by
  obtain ⟨hw, _⟩ := r.live n a _ ha hs
  have hlen : n < S.length := (List.getElem?_eq_some_iff.mp hs).1
  have sm : Same w.h (upd w.h a (.lst xs)) := fun b o e => by
    rw [upd_ne (ne_of_none e hw)]
    exact e
  have ex : Ex3 w ⟨w.al, upd w.h a (.lst xs), w.pn⟩ := ⟨⟨⟨[], by simp⟩, sm⟩, rfl⟩
  have other : ∀ m b, w.al[m]? = some b → m ≠ n → b ≠ a := fun m b e hm z => by
    subst z
    obtain ⟨h1, e1⟩ := List.getElem?_eq_some_iff.mp e
    obtain ⟨h2, e2⟩ := List.getElem?_eq_some_iff.mp ha
    exact hm ((List.getElem_inj r.nd).mp (e1.trans e2.symm))
  refine ⟨⟨fun b x e => ?_, fun b x e => ?_, by simp [r.len], fun m b x e q => ?_, fun m b e q => ?_, r.nd, fun b o hb => ?_, r.pnd⟩, ex, .lst (.inl (.inl upd_same)) (dpAll_mono sm ds xs hd)⟩
  · have e' : upd w.h a (.lst xs) b = some x := e
    by_cases hb : b = a
    · subst hb
      rw [upd_same] at e'
      cases e'
      exact hu
    · rw [upd_ne hb] at e'
      exact r.sub b x e'
  · have e' : upd w.h a (.lst xs) b = some x := e
    by_cases hb : b = a
    · subst hb
      rw [upd_same] at e'
      cases e'
      show xs.length ≤ sizeLine
      rw [DpAll.length hd]
      exact hz
    · rw [upd_ne hb] at e'
      exact r.sz b x e'
  · by_cases hm : m = n
    · subst hm
      rw [List.getElem?_set_self hlen] at q
      cases q
    · rw [List.getElem?_set_ne (Ne.symm hm)] at q
      obtain ⟨h1, y, h2, h3⟩ := r.live m b x e q
      exact ⟨by show upd w.h a (.lst xs) b = none; rw [upd_ne (other m b e hm)]; exact h1, y, h2, h3.mono ex.toEx0⟩
  · by_cases hm : m = n
    · subst hm
      have : b = a := Option.some.inj (e.symm.trans ha)
      subst this
      exact ⟨_, upd_same⟩
    · rw [List.getElem?_set_ne (Ne.symm hm)] at q
      obtain ⟨y, h1⟩ := r.dead m b e q
      exact ⟨y, sm b y h1⟩
  · obtain ⟨h1, h2, h3⟩ := r.pin b o hb
    have nb : b ≠ a := fun z => h3 (by rw [z]; exact List.mem_of_getElem? ha)
    exact ⟨h1, by show upd w.h a (.lst xs) b = none; rw [upd_ne nb]; exact h2, h3⟩
def noneAll (S : S3) : List Nat → S3
  | [] => S
  | n :: ns => noneAll (S.set n none) ns
theorem noneAll_other {n : Nat} : ∀ {ns : List Nat} {S : S3}, n ∉ ns → (noneAll S ns)[n]? = S[n]?
  | [], _, _ => rfl
  | m :: ns, S, h => by
    have h1 : n ≠ m := fun z => h (by rw [z]; exact List.mem_cons_self)
    have h2 : n ∉ ns := fun z => h (List.mem_cons_of_mem _ z)
    show (noneAll (S.set m none) ns)[n]? = _
    rw [noneAll_other h2, List.getElem?_set_ne (Ne.symm h1)]
theorem freeze_all {K : PySem.W.Frag} {H : Hp} : ∀ {ns : List Nat} {dss : List (List PyData)} {xs : List V} {w : W3} {S : S3}, Rel3 K w H S → (∀ (j : Nat) (n : Nat) (ds : List PyData), ns[j]? = some n → dss[j]? = some ds → S[n]? = some (some (.lst ds))) → ns.length = dss.length → ns.Nodup → Paired (fun v n => RepD K w v (.loc n)) xs ns →
    ∃ w', Rel3 K w' H (noneAll S ns) ∧ Ex3 w w' ∧ DpAll K w'.h xs (dss.map PyData.list)
  | [], [], _, w, S, r, _, _, _, .nil => ⟨w, r, Ex3.refl w, .nil⟩
  | n :: ns, ds :: dss, _, w, S, r, hs, hl, nd, .cons (a := v) (l₁ := xs) p ps => by
    obtain ⟨a, ha, rfl⟩ := p
    obtain ⟨n1, n2⟩ := List.nodup_cons.mp nd
    have h0 := hs 0 n ds rfl rfl
    obtain ⟨u, r1, e1, d1⟩ := r.freeze ha h0
    obtain ⟨w', r2, e2, d2⟩ := freeze_all (ns := ns) (dss := dss) (xs := xs) r1 (fun j m es h1 h2 => by
      have h3 := hs (j + 1) m es (by simpa using h1) (by simpa using h2)
      have hm : m ≠ n := fun z => n1 (by rw [← z]; exact List.mem_of_getElem? h1)
      rw [List.getElem?_set_ne (Ne.symm hm)]
      exact h3) (by simpa using hl) n2 (Paired.mapP ps fun v m z => z.mono e1)
    exact ⟨w', r2, e1.trans e2, .cons (dp_mono e2.h _ _ d1) d2⟩
def tFrzL3 (i : Nat) (u : TS3) : TS3 := fun D env S => match at3 env i with
  | some (.loc n) => ∃ (ns : List Nat) (dss : List (List PyData)), S[n]? = some (some (.lls (ns.map L3.D.loc))) ∧ ns.length = dss.length ∧ ns.Nodup ∧ n ∉ ns ∧ (∀ (j : Nat) (m : Nat) (ds : List PyData), ns[j]? = some m → dss[j]? = some ds → S[m]? = some (some (.lst ds))) ∧ u D (set3 env i (.p (.list (dss.map PyData.list)))) ((noneAll S ns).set n none)
  | _ => False
theorem lp_locs {K : PySem.W.Frag} {w : W3} {n : Nat} : ∀ {ns : List Nat} {xs : List V}, Paired (LrR K w n) xs (ns.map D.loc) → Paired (fun v m => RepD K w v (.loc m)) xs ns
  | [], _, .nil => .nil
  | m :: ns, _, .cons r rs => .cons r.1 (lp_locs rs)
section
variable {X : Cx} {rest : List Stmt} {u : TS3}
theorem qss_frzL (i : Nat) (h : QSs X rest u) : QSs X rest (tFrzL3 i u) := L2.PSs.imp h fun D σ H ⟨w, env, S, D3, r, en, t, q⟩ => by
  unfold tFrzL3 at t
  split at t
  · rename_i n hn
    obtain ⟨ns, dss, hs, hl, nd, hnn, hin, t⟩ := t
    obtain ⟨v, hv, a, ha, rfl⟩ := en.2 i _ hn
    obtain ⟨_, x, hu, xs, rfl, hp, hz⟩ := r.live n a _ ha hs
    obtain ⟨w', r1, e1, d1⟩ := freeze_all r hin hl nd (lp_locs hp)
    obtain ⟨al', h', pn'⟩ := w'
    have ha' : al'[n]? = some a := by
      obtain ⟨t', ht'⟩ := e1.al
      have ht2 : al' = w.al ++ t' := ht'
      rw [ht2, List.getElem?_append_left (List.getElem?_eq_some_iff.mp ha).1]
      exact ha
    have hs' : (noneAll S ns)[n]? = some (some (.lls (ns.map L3.D.loc))) := by rw [noneAll_other hnn]; exact hs
    obtain ⟨r2, e2, d2⟩ := r1.freezeG ha' hs' hu d1 (by
      rw [List.length_map] at hz ⊢
      omega)
    exact ⟨_, _, _, D3, r2, (en.mono (e1.trans e2)).put (d := .p (.list (dss.map PyData.list))) hv d2, t, q.mono (e1.trans e2)⟩
  · exact t.elim
end
end L3

namespace L3
open PySem PySem.Spec PyProof.Rows L2
/-! ### max of a tuple of ints -/
open PySem.W in
theorem max_tuple_ix {prog : Program} {w : World} {A : Around} {E : Value → Shared → Prop} {s : Shared} {l : Addr} {vs : Array Value} {x : PyData} {xs : List PyData} {as : List Addr} {Q : Value → Shared → Prop} (hh : A.handled = none) (hl : s.heap.IsTuple l vs) (hr : ReadsAll s.heap vs.toList (x :: xs) as) (ha : AlikeAll (x :: xs)) (hu : A.units + 1 + PyData.depthAll (x :: xs) < cLine)
    (h : ∀ (i : Nat) v h' tk, i < xs.length + 1 → vs[i]? = some v → (x :: xs).getD i .none = maxD x xs → (∀ b o, s.heap.get? b = some o → h'.get? b = some o) → Q v { s with heap := h', toks := tk }) :
    wpAny (model prog w) A (call (.builtin "max") [.ref l]) Q E s := by
  have hn : vs.size = xs.length + 1 := readsAll_len hr
  refine call_max_walkH (iter_tupleW (A := A.in1) hh hl fun s₂ e W st hfp hw hk => ?_)
  refine ⟨_, _, _, _, _, _, _, s.heap, _, rfl, W, st, hfp, by omega, hw, hk, cmpIn_gt (A := A.in1) hr ha (by show A.units + 1 + _ < _; exact hu), fun v s' hP m => ?_⟩
  obtain ⟨h', tk, rfl, hk'⟩ := moved_old e rfl m
  have e1 : vs.size - 1 = xs.length := by omega
  have e2 := argBest_fold (fun a b => dataLt b a) PyData.none x xs xs.length (Nat.le_refl _)
  rw [List.take_length] at e2
  rw [e1] at hP
  exact h _ v h' tk (Nat.lt_succ_of_le e2.1) hP (by unfold maxD; exact e2.2) hk'
theorem maxD_ints : ∀ (ns : List Int) (n : Int), PySem.W.maxD (.int n) (ns.map PyData.int) = .int (ns.foldl (fun a b => if b > a then b else a) n)
  | [], n => rfl
  | k :: ns, n => by
    have ih := maxD_ints ns
    unfold PySem.W.maxD at ih ⊢
    rw [List.map_cons, List.foldl_cons, List.foldl_cons, ← ih]
    congr 1
    rw [PySem.W.dataLt_int]
    by_cases h : n < k
    · simp [h]
    · simp [h]
theorem depthAll_ints0 : ∀ ws : List Int, PyData.depthAll (ws.map PyData.int) = 0
  | [] => by rw [List.map_nil]; unfold PyData.depthAll; rfl
  | w :: ws => by
    rw [List.map_cons]
    unfold PyData.depthAll
    rw [depthAll_ints0 ws]
    rfl
theorem cr_maxT {X : Cx} (hc : X.calm = true) (hu : X.A.units + 64 < cLine) : CallR X (.builtin "max") (fun xs H Q => ∃ (a : Addr) (n : Int) (ns : List Int), xs = [V.ref a] ∧ SqT X.K H a ((n :: ns).map V.int) ∧ Q (.int (maxI (n :: ns))) H) := by
  intro pins s σ H vs us Q I r h
  obtain ⟨a, n, ns, rfl, hs, q⟩ := h
  obtain ⟨its, rv, hl, _⟩ := I.tuple hs
  rw [Vals.ref1 r]
  obtain ⟨as, hr⟩ := dpAll_reads I rv (dpAll_ints (n :: ns))
  refine max_tuple_ix (x := .int n) (xs := ns.map PyData.int) (I.ok.hd hc) hl hr ⟨fun x hx y hy => ?_, fun x hx => ?_⟩ (by rw [show PyData.int n :: ns.map PyData.int = (n :: ns).map PyData.int from rfl, depthAll_ints0]; omega) fun i v h' tk hi hv hm hk => ?_
  · have hx' : x ∈ (n :: ns).map PyData.int := hx
    have hy' : y ∈ (n :: ns).map PyData.int := hy
    obtain ⟨i, _, rfl⟩ := List.mem_map.mp hx'
    obtain ⟨j, _, rfl⟩ := List.mem_map.mp hy'
    rfl
  · have hx' : x ∈ (n :: ns).map PyData.int := hx
    obtain ⟨i, _, rfl⟩ := List.mem_map.mp hx'
    exact fun h => by cases h
  · obtain ⟨y, hy, hrel⟩ := vals_ix rv i v (by simpa using hv)
    rw [List.getElem?_map] at hy
    obtain ⟨k, hk2, rfl⟩ := Option.map_eq_some_iff.mp hy
    rw [maxD_ints] at hm
    have e : k = maxI (n :: ns) := by
      have h1 : (PyData.int n :: ns.map PyData.int).getD i .none = .int k := by
        rw [show PyData.int n :: ns.map PyData.int = (n :: ns).map PyData.int from rfl, List.getD_eq_getElem?_getD, List.getElem?_map, hk2]
        rfl
      rw [h1] at hm
      cases hm
      rfl
    subst e
    exact ⟨.int _, H, I.kept hk, hrel, q⟩
def rMaxT3 : C3 := fun ds S Q => match ds with
  | [.p (.tuple ds)] => (match allP int? ds with
    | some (n :: ns) => Q (.p (.int (maxI (n :: ns)))) S
    | _ => False)
  | _ => False
theorem cq_maxT {X : Cx} (hc : X.calm = true) (hu : X.A.units + 64 < cLine) : CQ X (.builtin "max") rMaxT3 := callq (cr_maxT hc hu) fun w S ds xs H Q R r0 p1 t q => by
  unfold rMaxT3 at t
  split at t
  · obtain ⟨v, rfl, p⟩ := rds1 p1
    split at t
    · rename_i n ns h1
      have p' := dp_mono r0.sub _ _ p
      rw [allP_int h1] at p'
      obtain ⟨a, ys, rfl, hq, ha⟩ := dp_tup_ref p'
      rw [dp_ints ha] at hq
      exact ⟨a, n, ns, rfl, hq, q.int r0 t⟩
    · exact t.elim
  · exact t.elim
end L3

namespace L3
open PySem PySem.Spec PyProof.Rows L2
/-! ### dict(pairs) whose keys are tuples; sorted(d) and len(d) of such a dict -/
def mergeT {β : Type} (kvs more : List (List Key × β)) : List (List Key × β) := more.foldl (fun acc kv => putE acc kv.1 kv.2) kvs
def mergeTV (kvs more : List (List Key × V)) : List (List Key × V) := more.foldl (fun acc kv => putK acc kv.1 kv.2) kvs
/-- a pair at p: the key's tuple at b, the value -/
abbrev PairT (K : PySem.W.Frag) (H : Hp) : Addr × Addr → List Key × V → Prop := fun p kv => SqT K H p.1 [.ref p.2, kv.2] ∧ H p.2 = some (.tup (kv.1.map kV))
section
variable {X : Cx}
theorem pairsT_of {pins : List (Addr × Obj)} {σ : L2.St} {H : Hp} {s : Shared} (I : L2.Inv X pins σ H s) : ∀ {ps : List (Addr × Addr)} {kvs : List (List Key × V)}, Paired (PairT X.K H) ps kvs →
    ∃ us : List Value, us.length = ps.length ∧ (∀ (j : Nat) (p : Addr × Addr) (u : Value), ps[j]? = some p → us[j]? = some u → IsTup s.heap p.1 #[.ref p.2, u]) ∧
      ∃ xs : List (List Key × Addr × Value), KT H kvs xs ∧ xs.length = ps.length ∧ ∀ (j : Nat) (p : Addr × Addr) (u : Value), ps[j]? = some p → us[j]? = some u → ∃ k, xs[j]? = some (k, p.2, u)
  | _, _, .nil => ⟨[], rfl, fun j p u e => by simp at e, [], .nil, rfl, fun j p u e => by simp at e⟩
  | _, _, .cons (a := p) (b := kv) h t => by
    obtain ⟨us, hl, hp, xs, hk, hx, hxs⟩ := pairsT_of I t
    obtain ⟨its, rv, ht, _⟩ := I.tuple h.1
    obtain ⟨u, y, ei, ru, ry⟩ := vals2 rv
    subst ei
    cases ru
    refine ⟨y :: us, by rw [List.length_cons, List.length_cons, hl], fun j q u e1 e2 => ?_, (kv.1, p.2, y) :: xs, .cons ⟨rfl, h.2, ry⟩ hk, by rw [List.length_cons, List.length_cons, hx], fun j q u e1 e2 => ?_⟩
    · cases j with
      | zero =>
        simp at e1 e2
        subst e1 e2
        exact ht
      | succ j => exact hp j q u (by simpa using e1) (by simpa using e2)
    · cases j with
      | zero =>
        simp at e1 e2
        subst e1 e2
        exact ⟨kv.1, rfl⟩
      | succ j => exact hxs j q u (by simpa using e1) (by simpa using e2)
theorem KT.storeAll {H : Hp} : ∀ {more : List (List Key × V)} {rs : List (List Key × Addr × Value)} {kvs : List (List Key × V)} {vs : List (List Key × Addr × Value)}, KT H more rs → KT H kvs vs → KT H (mergeTV kvs more) (storedAllH vs rs)
  | _, _, _, _, .nil, q => q
  | _, _, _, _, .cons h t, q => by
    obtain ⟨h1, h2, h3⟩ := h
    show KT H (mergeTV (putK _ _ _) _) (storedAllH (storedH _ _ _ _) _)
    rw [← h1]
    exact KT.storeAll t (q.put _ h2 h3)
theorem kt_is {P : Program} {w : World} {H : Hp} {h : Heap} (ok : HOk P w H h) : ∀ {kvs : List (List Key × V)} {xs : List (List Key × Addr × Value)}, KT H kvs xs → ∀ x ∈ xs, (tupleKind (mixKind P w)).is h x.1 x.2.1
  | _, _, .nil, x, hx => nomatch hx
  | _, _, .cons (a := p) (b := q) h t, x, hx => by
    rcases List.mem_cons.mp hx with e | hx
    · subst e
      exact key_of ok (by rw [← h.1]; exact h.2.1)
    · exact kt_is ok t x hx
theorem mergeTV_length : ∀ (more kvs : List (List Key × V)), (mergeTV kvs more).length ≤ kvs.length + more.length
  | [], _ => Nat.le_refl _
  | p :: more, kvs => by
    have h1 := mergeTV_length more (putK kvs p.1 p.2)
    have h2 : (putK kvs p.1 p.2).length ≤ kvs.length + 1 := by
      unfold putK
      split <;> simp
    show (mergeTV (putK kvs p.1 p.2) more).length ≤ _
    simp only [List.length_cons]
    omega
theorem nodup_entries {w : World} {P : Program} {h : Heap} {a : Addr} {xs : List (List Key × Addr × Value)} (d : h.DictOfH (tupleKind (mixKind P w)) a xs) : ∃ o es ep, h.get? a = some o ∧ o.ExactDict ∧ o.data = .dict es ep ∧ es.toList = xs.map (entryOfKey (tupleKind (mixKind P w))) ∧ (xs.map (·.1)).Nodup := by
  obtain ⟨o, es, ep, h1, h2, h3, h4, _, h5⟩ := d
  exact ⟨o, es, ep, h1, h2, h3, h4, h5⟩
/-- dict(xs) of a list of pairs whose keys are tuples -/
theorem call_dictPT (hcalm : X.calm = true) (hu : X.A.units + 64 < cLine) : CallR X (.type "dict") (fun xs H Q => ∃ (a : Addr) (ps : List (Addr × Addr)) (kvs : List (List Key × V)), xs = [.ref a] ∧ SqL X.K H a (ps.map fun p => V.ref p.1) ∧ Paired (PairT X.K H) ps kvs ∧
    ∀ p, H p = none → Q (.ref p) (upd H p (.dT (mergeTV [] kvs)))) := by
  intro pins s σ H xs us Q I r q
  obtain ⟨a, ps, kvs, ex, hq, hp, q⟩ := q
  subst ex
  obtain ⟨u, eu, rx⟩ := vals1 r
  subst eu
  cases rx
  obtain ⟨its, rv, pl, hz⟩ := I.list hq
  have ei : its = (ps.map (·.1)).map Value.ref := refs_at (ps := ps.map (·.1)) (by rw [List.map_map]; exact rv)
  subst ei
  rw [List.length_map] at hz
  obtain ⟨us, hl, hpr, ys, hk, hx, hys⟩ := pairsT_of I hp
  obtain ⟨o, n, ho, hc, hd, hdat⟩ := pl
  have hzip : ∀ (j : Nat) (k v : Value), ((ps.map fun p => Value.ref p.2).zip us)[j]? = some (k, v) → ∃ p, ps[j]? = some p ∧ k = .ref p.2 ∧ us[j]? = some v := by
    intro j k v e
    obtain ⟨h1, h2⟩ := List.getElem?_zip_eq_some.mp e
    rw [List.getElem?_map] at h1
    cases hpj : ps[j]? with
    | none => rw [hpj] at h1; cases h1
    | some p =>
      rw [hpj] at h1
      exact ⟨p, rfl, (Option.some.inj h1).symm, h2⟩
  have hlen : ((ps.map fun p => Value.ref p.2).zip us).length = ps.length := by
    rw [List.length_zip, List.length_map, hl, Nat.min_self]
  have harr : ∀ (j : Nat) (p : Addr × Addr), ps[j]? = some p → ((ps.map (·.1)).map Value.ref).toArray[j]? = some (Value.ref p.1) := by
    intro j p e
    rw [List.getElem?_toArray, List.getElem?_map, List.getElem?_map, e]
    all_goals rfl
  refine call_dict_pairsH (knd := tupleKind (mixKind X.prog X.w)) (ps := ys) (Q := EP X pins σ Q) (PairArg.list a ((ps.map (·.1)).map Value.ref).toArray (fun j => ((ps.map (·.1))[j]?).getD 0) ((ps.map fun p => Value.ref p.2).zip us)) (I.ok.hd hcalm) (by show X.A.units + 1 + 1 < cLine; omega)
    ⟨⟨o, n, ho, hc, hd, hdat⟩, by simp [hl], fun j k v e => ?_⟩ ⟨by rw [hx, hlen], fun j k v e => ?_⟩ (fun h' hk' x hx' => ?_) (by rw [hlen]; exact hz) fun h' tk hd' k => ?_
  · obtain ⟨p, e1, rfl, e2⟩ := hzip j k v e
    have e3 : ((ps.map (·.1))[j]?).getD 0 = p.1 := by rw [List.getElem?_map, e1]; rfl
    simp only [e3]
    obtain ⟨ob, h1, h2, m, h3⟩ := hpr j p v e1 e2
    exact ⟨harr j p e1, .inl ⟨ob, h1, h2, m, h3⟩⟩
  · obtain ⟨p, e1, rfl, e2⟩ := hzip j k v e
    obtain ⟨k', e3⟩ := hys j p v e1 e2
    exact ⟨k', p.2, e3, rfl⟩
  · obtain ⟨ob, its', m, h1, h2⟩ := kt_is I.hok hk x hx'
    exact ⟨ob, its', m, hk' _ _ (Nat.ne_of_lt (Heap.lt_size h1)) (fun z => nomatch z) h1, h2⟩
  · have hm : (s.heap.objs.size == sysModules) = false := beq_eq_false_iff_ne.mpr (Nat.ne_of_gt I.big)
    have hkl : kvs.length = ps.length := (Paired.length hp).symm
    have hlen2 : (mergeTV [] kvs).length ≤ sizeLine := by
      refine Nat.le_trans (mergeTV_length kvs []) ?_
      rw [List.length_nil, Nat.zero_add, hkl]
      simpa using hz
    have hkt : KT H (mergeTV [] kvs) (storedAllH [] ys) := KT.storeAll hk .nil
    have hn := I.hok.fresh (a := s.heap.objs.size) (Nat.le_refl _)
    have hkt' : KT (upd H s.heap.objs.size (.dT (mergeTV [] kvs))) (mergeTV [] kvs) (storedAllH [] ys) := hkt.keeps fun b zs e => by
      rw [upd_ne (fun z => by subst z; rw [hn] at e; cases e)]
      exact e
    obtain ⟨ob, es, ep, g⟩ := nodup_entries hd'
    exact ⟨V.ref s.heap.objs.size, upd H s.heap.objs.size (.dT (mergeTV [] kvs)), I.laid (t' := tk) (fun b o e => k b o (fun z => nomatch z) e) (Nat.le_refl _) (show ObjOk X.prog X.w _ _ _ (.dT (mergeTV [] kvs)) from ⟨hlen2, hm, storedAllH [] ys, hkt', ob, es, ep, g⟩), rfl, q _ hn⟩

/-- the key as data -/
def keyPd (k : List Key) : PyData := .tuple (k.map datK)
theorem dp_datK {K : PySem.W.Frag} {H : Hp} : ∀ k : Key, Dp K H (kV k) (datK k)
  | .inl i => .int i
  | .inr x => .str x
theorem dp_datKs {K : PySem.W.Frag} {H : Hp} : ∀ ks : List Key, DpAll K H (ks.map kV) (ks.map datK)
  | [] => .nil
  | k :: ks => .cons (dp_datK k) (dp_datKs ks)
theorem dp_keyPd {K : PySem.W.Frag} {H : Hp} {b : Addr} {k : List Key} (h : H b = some (.tup (k.map kV))) : Dp K H (.ref b) (keyPd k) := .tup (.inl (.inl h)) (dp_datKs k)
/-- the tuples that are a dict's keys, in order -/
abbrev KeysAt (H : Hp) : List (List Key × V) → List Addr → Prop := Paired fun p b => H b = some (.tup (p.1.map kV)) ∧ p.1.length ≤ sizeLine
theorem keysAt_of {P : Program} {w : World} {H : Hp} {h : Heap} (ok : HOk P w H h) : ∀ {kvs : List (List Key × V)} {xs : List (List Key × Addr × Value)}, KT H kvs xs → KeysAt H kvs (xs.map fun x => x.2.1)
  | _, _, .nil => .nil
  | _, _, .cons (a := p) (b := q) h t => by
    refine .cons ⟨h.2.1, ?_⟩ (keysAt_of ok t)
    have := (show ObjOk P w H _ q.2.1 (.tup (p.1.map kV)) from ok _ _ h.2.1).1
    simpa using this
theorem dpAll_keys {K : PySem.W.Frag} {H : Hp} : ∀ {kvs : List (List Key × V)} {bs : List Addr}, KeysAt H kvs bs → DpAll K H (bs.map V.ref) (kvs.map fun p => keyPd p.1)
  | _, _, .nil => .nil
  | _, _, .cons h t => .cons (dp_keyPd h.1) (dpAll_keys t)
open PySem.W in
def rSortedT : List V → Hp → VK → Prop := fun vs H Q => ∃ (d : Addr) (kvs : List (List Key × V)), vs = [V.ref d] ∧ Rd H d (.dT kvs) ∧ AllAlike (kvs.map fun p => keyPd p.1) ∧ Sortable (kvs.map fun p => keyPd p.1) ∧ (∀ e ∈ kvs.map (fun p => keyPd p.1), e.depth ≤ 60) ∧
  ∀ p bs, H p = none → KeysAt H kvs bs → kvs.length ≤ sizeLine → Q (.ref p) (upd H p (.lst ((((bs.map V.ref).zip (kvs.map fun p => keyPd p.1)).mergeSort (dataLe false Prod.snd)).map (·.1))))
open PySem.W in
theorem cr_sortedT (hcalm : X.calm = true) (hu : X.A.units + 64 < cLine) : CallR X (.builtin "sorted") rSortedT := by
  intro pins s σ H vs us Q I r h
  obtain ⟨d, kvs, rfl, hd, hal, hk, hdep, q⟩ := h
  obtain ⟨u, rfl, rx⟩ := r.one
  cases rx
  obtain ⟨z, hs, ks, pr, o, es, ep, ho, hx, hdt, he, hn⟩ := (show ObjOk X.prog X.w H s.heap d (.dT kvs) from hd.ok I.hok)
  have l1 : es.size = ks.length := size_of_entries he
  have l2 : kvs.length = ks.length := Paired.length pr
  refine Calls.call_function_entry PyProof.Rows.kind_sorted PyProof.Rows.plain_sorted PyProof.Rows.entry_sorted (PyProof.Rows.args_sorted1 _) ?_
  unfold Builtin.«sorted»
  refine wpAny_bind (m := checkCount "sorted" 1 1 _) (wpAny_pure ?_)
  refine wpAny_bind (PySem.W.kdu_collect (A := X.A.in1) (kdl_raw hs hx hdt) (I.ok.hd hcalm) ho (by omega) fun h' tk acc hkp it => ?_)
  have hacl : acc.toList.length = ks.length := by rw [Array.length_toList, it.1]; exact l1
  have ea : acc.toList = (ks.map fun x => x.2.1).map Value.ref := by
    rw [List.map_map]
    apply List.ext_getElem?
    intro j
    rw [List.getElem?_map]
    cases hj : acc.toList[j]? with
    | none =>
      have h1 := List.getElem?_eq_none_iff.mp hj
      rw [List.getElem?_eq_none (by omega)]
      all_goals rfl
    | some v =>
      obtain ⟨en, hen, hv⟩ := it.2 j v (by rw [← Array.getElem?_toList]; exact hj)
      have qe := entry_at he j
      rw [hen] at qe
      cases hb : ks[j]? with
      | none =>
        rw [hb] at qe
        exact nomatch (show some en = none from qe)
      | some b =>
        rw [hb] at qe
        have e2 : en = entryOfKey (tupleKind (mixKind X.prog X.w)) b := Option.some.inj qe
        rw [hv, e2]
        all_goals rfl
  have rv : Vals ((ks.map fun x => x.2.1).map V.ref) acc.toList := by rw [ea]; exact vals_refs _
  have hka : KeysAt H kvs (ks.map fun x => x.2.1) := keysAt_of I.hok pr
  have hdp : DpAll X.K H ((ks.map fun x => x.2.1).map V.ref) (kvs.map fun p => keyPd p.1) := dpAll_keys hka
  obtain ⟨e1, e2⟩ := each_zip I rv hdp
  generalize hbs : ((ks.map fun x => x.2.1).map V.ref).zip (kvs.map fun p => keyPd p.1) = bs at e1 e2
  have hm : bs.map Prod.snd = kvs.map fun p => keyPd p.1 := by
    rw [← hbs]
    exact zip_snd (by simp [l2])
  have hbl : bs.length = ks.length := by rw [← hbs, List.length_zip]; simp [l2]
  have I1 : L2.Inv X pins σ H { s with heap := h', toks := tk } := I.kept hkp
  refine wpAny_bind (wpAny_newList ?_ (by rw [hacl]; omega))
  have hoL : (h'.push (seqObj "list" acc.toList.toArray 0)).get? h'.objs.size = some (seqObj "list" acc.toList.toArray 0) := Heap.get?_push_size _ rfl
  show wpAny _ _ _ _ _ { s with heap := h'.push (seqObj "list" acc.toList.toArray 0), toks := tk }
  have old : ∀ b o, s.heap.get? b = some o → (sortingHeap (h'.push (seqObj "list" acc.toList.toArray 0)) h'.objs.size acc.toList).get? b = some o := fun b o e =>
    sortingHeap_old (Nat.ne_of_lt (Heap.lt_size (hkp b o e))) (Heap.get?_push_of_some _ (hkp b o e))
  have er' : EachIs (fun v b => ∃ as, Reads (sortingHeap (h'.push (seqObj "list" acc.toList.toArray 0)) h'.objs.size acc.toList) v (Prod.snd b) as) acc.toList bs := e2.mono fun _ _ ⟨as, r⟩ => ⟨as, PyProof.Rows.Reads.keeps old r⟩
  have hub : ∀ b, b ∈ bs → X.A.in1.in1.units + (Prod.snd b).depth < cLine := fun b hb => by
    have : b.2 ∈ kvs.map fun p => keyPd p.1 := by
      rw [← hm]
      exact List.mem_map.mpr ⟨b, hb, rfl⟩
    have := hdep _ this
    show X.A.units + 1 + 1 + _ < cLine
    omega
  refine wpAny_bind (wpAny_holding (wpAny_call_entry PyProof.Rows.slot_list_sort ⟨_, hoL, rfl⟩ PyProof.Rows.entry_list_sort
    (list_sort_vals (κ := dataKind (sortingHeap (h'.push (seqObj "list" acc.toList.toArray 0)) h'.objs.size acc.toList) (bs.map Prod.snd)) hoL (SortsAt.data (s := { s with heap := sortingHeap (h'.push (seqObj "list" acc.toList.toArray 0)) h'.objs.size acc.toList, toks := tk }) (each_map (R := fun v d => ∃ as, Reads (sortingHeap (h'.push (seqObj "list" acc.toList.toArray 0)) h'.objs.size acc.toList) v d as) Prod.snd er') (by rw [hm]; exact hal) (by rw [hm]; exact hk) (bound_map hub)) (by rw [hacl]; omega) ⟨_, rfl, ?_⟩)
    (PyProof.Rows.args_list_sort _)))
  have hR := sortVals_data (enc := Prod.snd) false e1 er' (by rw [hm]; exact hal)
  obtain ⟨e', he'⟩ := PyProof.Rows.sortedHeap_at (vs := acc.toList) (out := (sortVals (dataKind (sortingHeap (h'.push (seqObj "list" acc.toList.toArray 0)) h'.objs.size acc.toList) (bs.map Prod.snd)) false acc.toList acc.toList).toArray) hoL
  have hl2 : ((bs.mergeSort (dataLe false Prod.snd)).map (·.1)).length ≤ sizeLine := by
    rw [List.length_map, List.length_mergeSort, hbl]
    omega
  have q' := q h'.objs.size (ks.map fun x => x.2.1) (I1.hok.fresh (Nat.le_refl _)) hka z
  rw [hbs] at q'
  refine wpAny_pure ⟨_, rfl, .ref h'.objs.size, upd H h'.objs.size (.lst ((bs.mergeSort (dataLe false Prod.snd)).map (·.1))), I1.laid (t' := tk) (fun b u e => ?_) (Nat.le_refl _) ⟨hl2, _, e', vals_each hR, he'⟩, rfl, q'⟩
  have hb : b < h'.objs.size := Heap.lt_size e
  rw [PyProof.Rows.sortedHeap_old (Nat.ne_of_lt hb) (by rw [size_push']; exact Nat.lt_succ_of_lt hb)]
  exact Heap.get?_push_of_some _ e
end
/-- a tuple that the heap holds goes into the world -/
theorem Rel3.tup {K : PySem.W.Frag} {w : W3} {H : Hp} {S : S3} (r : Rel3 K w H S) {b : Addr} {xs : List V} (hb : H b = some (.tup xs)) (hz : xs.length ≤ sizeLine) : Rel3 K ⟨w.al, upd w.h b (.tup xs), w.pn⟩ H S ∧ Ex3 w ⟨w.al, upd w.h b (.tup xs), w.pn⟩ := by
  have sm : Same w.h (upd w.h b (.tup xs)) := fun a u e => by
    by_cases ha : a = b
    · subst ha
      have := r.sub a u e
      rw [hb] at this
      rw [upd_same]
      exact this
    · rw [upd_ne ha]
      exact e
  have ex : Ex3 w ⟨w.al, upd w.h b (.tup xs), w.pn⟩ := ⟨⟨⟨[], by simp⟩, sm⟩, rfl⟩
  refine ⟨⟨fun a u e => ?_, fun a u e => ?_, r.len, fun n a o e q => ?_, fun n a e q => ?_, r.nd, fun a u ha => ?_, r.pnd⟩, ex⟩
  · have e' : upd w.h b (.tup xs) a = some u := e
    by_cases ha : a = b
    · subst ha
      rw [upd_same] at e'
      rw [hb]
      exact e'
    · rw [upd_ne ha] at e'
      exact r.sub a u e'
  · have e' : upd w.h b (.tup xs) a = some u := e
    by_cases ha : a = b
    · subst ha
      rw [upd_same] at e'
      cases e'
      exact hz
    · rw [upd_ne ha] at e'
      exact r.sz a u e'
  · obtain ⟨h1, u, h2, h3⟩ := r.live n a o e q
    have ha : a ≠ b := fun z => by
      subst z
      rw [hb] at h2
      cases h2
      cases o with
      | dif od kxs kvs =>
        obtain ⟨h4, _⟩ := h3
        cases h4
      | dkf od kxs kvs =>
        obtain ⟨h4, _⟩ := h3
        cases h4
      | _ =>
        obtain ⟨_, h4, _⟩ := h3
        cases h4
    exact ⟨by show upd w.h b (.tup xs) a = none; rw [upd_ne ha]; exact h1, u, h2, h3.mono ex.toEx0⟩
  · obtain ⟨u, h1⟩ := r.dead n a e q
    exact ⟨u, sm a u h1⟩
  · obtain ⟨h1, h2, h3⟩ := r.pin a u ha
    have hab : a ≠ b := fun z => by
      subst z
      rw [hb] at h1
      cases h1
      exact (r.pnd.2 _ ha).elim
    exact ⟨h1, by show upd w.h b (.tup xs) a = none; rw [upd_ne hab]; exact h2, h3⟩
theorem Rel3.tups {K : PySem.W.Frag} {H : Hp} {S : S3} : ∀ {w : W3} {kvs : List (List Key × V)} {bs : List Addr}, Rel3 K w H S → KeysAt H kvs bs → ∃ h', Ex3 w ⟨w.al, h', w.pn⟩ ∧ Rel3 K ⟨w.al, h', w.pn⟩ H S ∧ DpAll K h' (bs.map V.ref) (kvs.map fun p => keyPd p.1)
  | w, _, _, r, .nil => ⟨w.h, ⟨⟨⟨[], by simp⟩, Same.refl _⟩, rfl⟩, r, .nil⟩
  | w, _, _, r, .cons (a := p) (b := b) h t => by
    obtain ⟨r1, e1⟩ := r.tup h.1 (by simpa using h.2)
    obtain ⟨h', e2, r2, d⟩ := Rel3.tups r1 t
    refine ⟨h', e1.trans e2, r2, .cons (dp_keyPd ?_) d⟩
    exact e2.h _ _ upd_same
def pairT : PyData → Option (List Key × PyData)
  | .tuple [k, v] => match keyT (.p k) with
    | some ks => some (ks, v)
    | none => none
  | _ => none
def pairsT : List PyData → Option (List (List Key × PyData))
  | [] => some []
  | d :: ds => match pairT d, pairsT ds with
    | some p, some ps => some (p :: ps)
    | _, _ => none
/-- dict(xs), the keys tuples -/
def tDictPT3 (te : TE3) : TE3 := fun env S Q => te env S fun x S1 => match lst3 S1 x with
  | some ds => (match pairsT ds with
    | some kvs => Q (.loc S1.length) (S1 ++ [some (.dic (mergeT [] kvs))])
    | none => False)
  | none => False
/-- sorted(d) -/
def tSortedT3 (te : TE3) : TN3 := fun env S Q => te env S fun x S1 => match dic3 S1 x with
  | some (_, kvs) => (PySem.W.AllAlike (kvs.map fun p => keyPd p.1) ∧ PySem.W.Sortable (kvs.map fun p => keyPd p.1) ∧ ∀ d ∈ kvs.map (fun p => keyPd p.1), d.depth ≤ 60) ∧ Q (sortD (kvs.map fun p => keyPd p.1)) S1
  | none => False
theorem pt_merge {K : PySem.W.Frag} {h : Hp} : ∀ {more : List (List Key × PyData)} {mxs kxs : List (List Key × V)} {kvs : List (List Key × PyData)}, Paired (KtR K h) mxs more → Paired (KtR K h) kxs kvs → Paired (KtR K h) (mergeTV kxs mxs) (mergeT kvs more)
  | _, _, _, _, .nil, s => s
  | _, _, _, _, .cons (a := p) (b := q) r rs, s => by
    have := pt_put (k := q.1) s r.2
    show Paired (KtR K h) (mergeTV (putK _ p.1 p.2) _) (mergeT (putE _ q.1 q.2) _)
    rw [show p.1 = q.1 from r.1]
    exact pt_merge rs this
theorem pairT_low {K : PySem.W.Frag} {w : W3} {H : Hp} {S : S3} {v : V} {d : PyData} {p : List Key × PyData} (hK : NoTK K) (r : Rel3 K w H S) (h1 : Dp K w.h v d) (h : pairT d = some p) : ∃ a b x, v = .ref a ∧ PairT K H (a, b) (p.1, x) ∧ Dp K w.h x p.2 := by
  unfold pairT at h
  split at h
  · rename_i k v'
    split at h
    · rename_i ks hk
      cases h
      cases h1 with
      | @tup a xs _ hs ha =>
        cases ha with
        | @cons y _ ys _ p1 ha =>
          cases ha with
          | @cons x _ zs _ p2 ha =>
            cases ha
            obtain ⟨b, rfl, hb⟩ := keyT_low (d := .p k) hK r p1 hk
            exact ⟨a, b, x, rfl, ⟨Same.sqT r.sub hs, hb⟩, p2⟩
    · cases h
  · cases h
theorem pairsT_low {K : PySem.W.Frag} {w : W3} {H : Hp} {S : S3} (hK : NoTK K) (r : Rel3 K w H S) : ∀ {ds : List PyData} {vs : List V} {kvs : List (List Key × PyData)}, DpAll K w.h vs ds → pairsT ds = some kvs →
    ∃ (ps : List (Addr × Addr)) (kxs : List (List Key × V)), vs = ps.map (fun p => V.ref p.1) ∧ Paired (PairT K H) ps kxs ∧ Paired (KtR K w.h) kxs kvs
  | [], _, _, .nil, e => by
    cases e
    exact ⟨[], [], rfl, .nil, .nil⟩
  | d :: ds, _, _, .cons p rs, e => by
    unfold pairsT at e
    split at e
    · rename_i q qs h1 h2
      cases e
      obtain ⟨a, b, x, rfl, g1, g2⟩ := pairT_low hK r p h1
      obtain ⟨ps, kxs, rfl, f1, f2⟩ := pairsT_low hK r rs h2
      exact ⟨(a, b) :: ps, (q.1, x) :: kxs, rfl, .cons g1 f1, .cons ⟨rfl, g2⟩ f2⟩
    · cases e
section
variable {X : Cx}
theorem qe_dictPT {e : Expr} {te : TE3} {p pos : Pos} (hK : NoTK X.K) (hcalm : X.calm = true) (hu : X.A.units + 64 < cLine) (hg : Gl X "dict") (hm : X.mg "dict" = none) (ha : QE X e te) (hs : starEach [e] X.env = (false, eval e X.env) :: starEach [] X.env := by rfl) (hpl : (backTo pos (starEach [] X.env)).any (·.1) = false := by rfl) :
    QE X (.Call (.Name "dict" p) [e] [] pos) (tDictPT3 te) := L2.PE.imp (pe_callTy (call_dictPT hcalm hu) hg hm (by decide +kernel) (pa_cons ha pa_nil hs) (by decide) (by decide) hs hpl) fun σ H R ⟨w, env, S, Q, r0, en, t, q⟩ => by
  refine ⟨w, env, S, _, r0, en, t, fun w1 v d H1 S1 e1 r1 p1 t1 => ?_⟩
  split at t1
  · rename_i ds h1
    obtain ⟨a, xs, rfl, hq, hd, hz⟩ := lst3_low r1 p1 h1
    split at t1
    · rename_i kvs h2
      obtain ⟨ps, kxs, rfl, f1, f2⟩ := pairsT_low hK r1 hd h2
      refine ⟨a, ps, kxs, rfl, hq, f1, fun p hn => ?_⟩
      obtain ⟨r2, e2⟩ := r1.push (u := .dT (mergeTV [] kxs)) (o := .dic (mergeT [] kvs)) hn ⟨_, rfl, pt_merge f2 .nil⟩
      refine q _ (.ref p) (.loc S1.length) _ _ (e1.trans e2) r2 ⟨p, ?_, rfl⟩ t1
      show (w1.al ++ [p])[S1.length]? = some p
      rw [← r1.len, List.getElem?_append_right (Nat.le_refl _)]
      simp
    · exact t1.elim
  · exact t1.elim
theorem pt_keys {K : PySem.W.Frag} {h : Hp} : ∀ {kxs : List (List Key × V)} {kvs : List (List Key × PyData)}, Paired (KtR K h) kxs kvs → (kxs.map fun p => keyPd p.1) = kvs.map fun p => keyPd p.1
  | _, _, .nil => rfl
  | _, _, .cons r rs => by rw [List.map_cons, List.map_cons, r.1, pt_keys rs]
theorem qn_sortedT {e : Expr} {te : TE3} {p pos : Pos} (hcalm : X.calm = true) (hu : X.A.units + 64 < cLine) (hg : Gl X "sorted") (hm : X.mg "sorted" = none) (ha : QE X e te) (hs : starEach [e] X.env = (false, eval e X.env) :: starEach [] X.env := by rfl) (hpl : (backTo pos (starEach [] X.env)).any (·.1) = false := by rfl) :
    QN X (.Call (.Name "sorted" p) [e] [] pos) (tSortedT3 te) := L2.PE.imp (pe_callB (cr_sortedT hcalm hu) hg hm (by decide +kernel) (pa_cons ha pa_nil hs) (by decide) (by decide) hs hpl) fun σ H R ⟨w, env, S, Q, r0, en, t, q⟩ => by
  refine ⟨w, env, S, _, r0, en, t, fun w1 v d H1 S1 e1 r1 p1 t1 => ?_⟩
  split at t1
  · rename_i n kvs h1
    obtain ⟨a, kxs, rfl, rfl, ha, hs', hH, hp⟩ := dic3_low r1 p1 h1
    obtain ⟨⟨c1, c2, c3⟩, t1⟩ := t1
    have ek := pt_keys hp
    refine ⟨a, kxs, rfl, .inl hH, by rw [ek]; exact c1, by rw [ek]; exact c2, by rw [ek]; exact c3, fun p bs hn hb hz => ?_⟩
    obtain ⟨h', e2, r2, dd⟩ := Rel3.tups r1 hb
    rw [ek] at dd ⊢
    have hlen := DpAll.length dd
    have hsnd : (((bs.map V.ref).zip (kvs.map fun p => keyPd p.1)).mergeSort (PySem.W.dataLe false Prod.snd)).map (·.2) = sortD (kvs.map fun p => keyPd p.1) := by
      have e := List.map_mergeSort (f := fun x : V × PyData => x.2) (r := PySem.W.dataLe false Prod.snd) (s := PySem.W.dataLe false id) (l := (bs.map V.ref).zip (kvs.map fun p => keyPd p.1)) (fun _ _ _ _ => rfl)
      unfold sortD
      rw [e, zip_snd hlen]
    refine q ⟨w1.al, h', w1.pn⟩ p _ (sortD (kvs.map fun p => keyPd p.1)) H1 S1 (e1.trans e2) r2 hn ?_ ?_ t1
    · rw [← hsnd]
      exact dp_unzip fun p hp => zip_dp dd p (List.mem_mergeSort.mp hp)
    · unfold sortD
      rw [List.length_mergeSort, ← ek, List.length_map]
      exact hz
  · exact t1.elim
end
/-! ### a, b = x, y where a comprehension reads a or b: by a tuple -/
theorem qs_parC {X : Cx} {i j : Nat} {tg a b : Expr} {ta : TA3} {pos pt2 : Pos} {k2} (ha : QA X [a, b] ta) (hg : QB X tg (.tup (.cons (.nm i) (.cons (.nm j) .nil)))) (hs : swapsWithSole [tg] (.Tuple [a, b] k2 pt2) pos.line X.env = pure false := by rfl)
    (hw : swappedStores [tg] (.Tuple [a, b] k2 pt2) X.env = pure none := by rfl) (h1 : (assignEach [tg] X.env).map (·.2) = [assign tg X.env] := by rfl) : QS X (.Assign [tg] (.Tuple [a, b] k2 pt2) pos) (tPr3 i j ta) :=
  (ps_asg (pe_tup ha) hg hs hw h1).imp fun D σ H ⟨w, env, S, D3, r, en, t, q⟩ => by
  refine ⟨w, env, S, _, r, en, t, fun w1 vs ds H1 S1 e1 r1 p1 t1 => ?_⟩
  have h2 : 2 ≤ sizeLine := by rw [sizeLine_eq]; decide
  match vs, ds, p1, t1 with
  | [v, u], [x, y], p1, t1 =>
    refine ⟨h2, fun p hn => ?_⟩
    obtain ⟨r2, e2⟩ := r1.frz (u := .tup [v, u]) hn h2
    unfold g2
    refine ⟨p, [v, u], rfl, .inl (.inl upd_same), rfl, ?_⟩
    unfold gs2
    refine ⟨v, [u], rfl, ?_⟩
    unfold gs2
    refine ⟨u, [], rfl, ?_⟩
    unfold gs2
    refine ⟨rfl, ?_⟩
    exact q.nx _ _ _ _ S1 (e1.trans e2) r2 (((en.mono (e1.trans e2)).set i (p1.1.mono e2)).set j (p1.2.1.mono e2)) t1
  | [], [x, y], p1, _ => exact p1.elim
  | [_], [x, y], p1, _ => exact p1.2.elim
  | _ :: _ :: _ :: _, [x, y], p1, _ => exact p1.2.2.elim
end L3

/-! ### enumerate(zip(a, b)) of two tuples: enumerate keeps zip's pair, so zip finds its tuple held -/
namespace L3
open PySem PySem.Spec PyProof.Rows L2
/-- a zip with any marker of what it gave out -/
abbrev ZipM (h : Heap) (z TI TO : Addr) (mk : Value) (f : Bool) : Prop :=
  h.get? z = some { cls := .type "zip", dict := none, data := .fields #[mk, .bool f, .bool false, .ref TI, .ref TO], slots := #[] }
def MkOk (mk : Value) : Prop := mk = .none ∨ ∃ T : Addr, mk = rawInt (T : Nat)
section
variable {prog : Program} {w : World} {A : Around} {E : Value → Shared → Prop} {s : Shared}
theorem alive_any {a : Addr} {Q : Option Obj → Shared → Prop} (h : Q (s.heap.get? a) s) : wpAny (model prog w) A (loadIfAlive a) Q E s :=
  fun _ _ _ => h
theorem owned_any {z TI TO : Addr} {mk : Value} {f : Bool} {Q : Bool → Shared → Prop} (hm : MkOk mk) (hz : ZipM s.heap z TI TO mk f)
    (h1 : Q true s) (h2 : ∀ h' f', ZipM h' z TI TO mk f' → Heap.SameBut z s.heap h' → Q false { s with heap := h' }) : wpAny (model prog w) A (Builtin.SmallTypes.ownedTupleIsFree (.ref z)) Q E s := by
  unfold Builtin.SmallTypes.ownedTupleIsFree
  rcases hm with rfl | ⟨T, rfl⟩
  · refine wpAny_bind (wpAny_field hz rfl (x := .none) rfl (wpAny_pure ?_))
    exact h1
  · refine wpAny_bind (wpAny_field hz rfl (x := rawInt (T : Nat)) rfl ?_)
    show wpAny _ _ (loadIfAlive ((T : Int).toNat) >>= _) _ _ _
    rw [Int.toNat_natCast]
    refine wpAny_bind (alive_any ?_)
    cases hT : s.heap.get? T with
    | none =>
      simp only [Option.isNone_none, if_true]
      exact wpAny_pure h1
    | some oT =>
      simp only [Option.isNone_some, Bool.false_eq_true, if_false]
      refine wpAny_bind (wpAny_field hz rfl (x := .bool f) rfl ?_)
      cases f with
      | true =>
        rw [if_neg (show ¬ ((Value.bool true != Value.bool true) = true) from Bool.false_ne_true)]
        exact wpAny_pure (h2 s.heap true hz (Heap.SameBut.refl _ _))
      | false =>
        rw [if_pos (show (Value.bool false != Value.bool true) = true from rfl)]
        exact wpAny_bind (wpAny_setField_rec hz (by simp) fun h₁ hz₁ hs₁ => wpAny_pure (h2 h₁ true hz₁ hs₁))
theorem zipM_item {z TI TO i1 i2 l1 l2 : Addr} {mk : Value} {f : Bool} {k1 k2 : Nat} {xs ys : Array Value} {x y a b : Value} {Q : Value → Shared → Prop} (D : ZipApart z TI TO i1 i2 l1 l2) (hm : MkOk mk)
    (hz : ZipM s.heap z TI TO mk f) (hTI : IsPair s.heap TI (.ref i1) (.ref i2)) (hTO : IsPair s.heap TO a b)
    (h1 : s.heap.IsTupleIter i1 l1 k1) (h2 : s.heap.IsTupleIter i2 l2 k2) (hl1 : s.heap.IsTuple l1 xs) (hl2 : s.heap.IsTuple l2 ys) (hx : xs[k1]? = some x) (hy : ys[k2]? = some y)
    (hQ : ∀ h' mk' f' a' b', MkOk mk' → ZipM h' z TI TO mk' f' → IsPair h' TO a' b' → h'.IsTupleIter i1 l1 (k1 + 1) → h'.IsTupleIter i2 l2 (k2 + 1) → IsPair h' s.heap.objs.size x y → h'.objs.size = s.heap.objs.size + 1 →
      (∀ c o, c ≠ z → c ≠ TO → c ≠ i1 → c ≠ i2 → s.heap.get? c = some o → h'.get? c = some o) → Q (.ref s.heap.objs.size) { s with heap := h' }) :
    wpAny (model prog w) A (Builtin.«zip.__next__» ⟨[.ref z], []⟩) (fun fin s' => ∃ v, fin = .done (.ret v) ∧ Q v s') E s := by
  show wpAny _ _ (field (.ref z) 2 >>= _) _ _ _
  refine wpAny_bind (wpAny_field hz rfl (x := .bool false) rfl ?_)
  show wpAny _ _ (field (.ref z) 3 >>= _) _ _ _
  refine wpAny_bind (wpAny_field hz rfl (x := .ref TI) rfl ?_)
  refine wpAny_bind (wpAny_seqItems hTI rfl ?_)
  show wpAny _ _ (Builtin.SmallTypes.ownedTupleIsFree (.ref z) >>= _) _ _ _
  refine wpAny_bind (owned_any hm hz ?_ ?_)
  · simp only [if_true]
    refine wpAny_bind (wpAny_rule ?_)
    refine wpAny_bind (wpAny_field hz rfl (x := .ref TO) rfl ?_)
    refine wpAny_bind (wpAny_setField_rec hz (by simp) fun h₁ hz₁ hs₁ => ?_)
    replace hz₁ : ZipM h₁ z TI TO .ellipsis f := hz₁
    refine wpAny_bind ?_
    simp only [List.zipIdx_cons, List.zipIdx_nil, List.forIn_cons, List.forIn_nil]
    refine wpAny_bind (wpAny_bind (wpAny_onRaise ?_))
    show wpAny _ _ (Builtin.SmallTypes.nextOf (.ref i1) >>= _) _ _ _
    refine wpAny_bind (RZ.nextOf_tuple_item (h1.extBut hs₁.extBut D.i1z) (hl1.extBut hs₁.extBut D.l1z) hx fun h₂ h1₂ hs₂ => wpAny_pure ?_)
    have hTO₂ : IsPair h₂ TO a b := hs₂.extBut _ _ D.TOi1 (hs₁.extBut _ _ D.TOz hTO)
    refine wpAny_bind (wpAny_seqItems hTO₂ rfl ?_)
    refine wpAny_bind (wpAny_updateSeq_pair hTO₂ fun h₃ hTO₃ hs₃ => ?_)
    replace hTO₃ : IsPair h₃ TO x b := hTO₃
    refine wpAny_bind (wpAny_letGo (wpAny_pure ?_))
    refine wpAny_bind (wpAny_bind (wpAny_onRaise ?_))
    show wpAny _ _ (Builtin.SmallTypes.nextOf (.ref i2) >>= _) _ _ _
    refine wpAny_bind (RZ.nextOf_tuple_item (((h2.extBut hs₁.extBut D.i2z).extBut hs₂.extBut D.i12.symm).extBut hs₃.extBut D.TOi2.symm)
      (((hl2.extBut hs₁.extBut D.l2z).extBut hs₂.extBut D.l2i1).extBut hs₃.extBut D.l2TO) hy fun h₄ h2₄ hs₄ => wpAny_pure ?_)
    have hTO₄ : IsPair h₄ TO x b := hs₄.extBut _ _ D.TOi2 hTO₃
    refine wpAny_bind (wpAny_seqItems hTO₄ rfl ?_)
    refine wpAny_bind (wpAny_updateSeq_pair hTO₄ fun h₅ hTO₅ hs₅ => ?_)
    replace hTO₅ : IsPair h₅ TO x y := hTO₅
    refine wpAny_bind (wpAny_letGo (wpAny_pure (wpAny_pure ?_)))
    refine wpAny_bind (wpAny_seqItems hTO₅ rfl ?_)
    refine wpAny_bind (wpAny_newTuple ?_)
    have hsz : h₅.objs.size = s.heap.objs.size := by rw [hs₅.1, hs₄.1, hs₃.1, hs₂.1, hs₁.1]
    have hz₅ : ZipM h₅ z TI TO .ellipsis f := hs₅.extBut _ _ D.TOz.symm (hs₄.extBut _ _ D.i2z.symm (hs₃.extBut _ _ D.TOz.symm (hs₂.extBut _ _ D.i1z.symm hz₁)))
    have hk₅ : ∀ c o, c ≠ z → c ≠ TO → c ≠ i1 → c ≠ i2 → s.heap.get? c = some o → h₅.get? c = some o := fun c o c1 c2 c3 c4 e =>
      hs₅.extBut _ _ c2 (hs₄.extBut _ _ c4 (hs₃.extBut _ _ c2 (hs₂.extBut _ _ c3 (hs₁.extBut _ _ c1 e))))
    have h1₅ : h₅.IsTupleIter i1 l1 (k1 + 1) := ((h1₂.extBut hs₃.extBut D.TOi1.symm).extBut hs₄.extBut D.i12).extBut hs₅.extBut D.TOi1.symm
    have h2₅ : h₅.IsTupleIter i2 l2 (k2 + 1) := h2₄.extBut hs₅.extBut D.TOi2.symm
    have hzlt : z < h₅.objs.size := Heap.lt_size hz₅
    show wpAny _ _ (Builtin.SmallTypes.ownedTupleHandOut (.ref z) (.ref h₅.objs.size) >>= _) _ _ _
    refine wpAny_bind ?_
    unfold Builtin.SmallTypes.ownedTupleHandOut
    have hz₆ : ZipM (h₅.push { cls := .type "tuple", data := .seq #[x, y] }) z TI TO .ellipsis f := Heap.get?_push_of_some _ hz₅
    refine wpAny_bind (wpAny_setField_rec hz₆ (by simp) fun h₇ hz₇ hs₇ => ?_)
    replace hz₇ : ZipM h₇ z TI TO (rawInt h₅.objs.size) f := hz₇
    refine wpAny_setField_rec hz₇ (by simp) fun h₈ hz₈ hs₈ => ?_
    replace hz₈ : ZipM h₈ z TI TO (rawInt h₅.objs.size) false := hz₈
    have up : ∀ c o, c ≠ z → h₅.get? c = some o → h₈.get? c = some o := fun c o c1 e => hs₈.extBut _ _ c1 (hs₇.extBut _ _ c1 (Heap.get?_push_of_some _ e))
    have hT₈ : IsPair h₈ h₅.objs.size x y := hs₈.extBut _ _ (Nat.ne_of_gt hzlt) (hs₇.extBut _ _ (Nat.ne_of_gt hzlt) (Heap.get?_push_size _ rfl))
    have hz8 : h₈.objs.size = h₅.objs.size + 1 := by rw [hs₈.1, hs₇.1, Heap.size_push]
    rw [hsz] at hz₈ hT₈ hz8
    refine wpAny_pure ⟨_, rfl, ?_⟩
    show Q (.ref h₅.objs.size) _
    rw [hsz]
    exact hQ h₈ _ _ x y (.inr ⟨_, rfl⟩) hz₈ (up _ _ D.TOz hTO₅) (h1₅.at fun o e => up _ o D.i1z e) (h2₅.at fun o e => up _ o D.i2z e) hT₈ hz8 fun c o c1 c2 c3 c4 e => up c o c1 (hk₅ c o c1 c2 c3 c4 e)
  · intro h₁ f' hz₁ hs₁
    simp only [Bool.false_eq_true, if_false]
    refine wpAny_bind ?_
    rw [← Array.forIn_toList]
    simp only [List.forIn_cons, List.forIn_nil]
    refine wpAny_bind (wpAny_bind (wpAny_holding ?_))
    show wpAny _ _ (Builtin.SmallTypes.nextOf (.ref i1) >>= _) _ _ _
    refine wpAny_bind (RZ.nextOf_tuple_item (s := { s with heap := h₁ }) (h1.extBut hs₁.extBut D.i1z) (hl1.extBut hs₁.extBut D.l1z) hx fun h₂ h1₂ hs₂ => wpAny_pure ?_)
    refine wpAny_pure ?_
    refine wpAny_bind (wpAny_bind (wpAny_holding ?_))
    show wpAny _ _ (Builtin.SmallTypes.nextOf (.ref i2) >>= _) _ _ _
    refine wpAny_bind (RZ.nextOf_tuple_item (s := { s with heap := h₂ }) ((h2.extBut hs₁.extBut D.i2z).extBut hs₂.extBut D.i12.symm) ((hl2.extBut hs₁.extBut D.l2z).extBut hs₂.extBut D.l2i1) hy fun h₃ h2₃ hs₃ => wpAny_pure ?_)
    refine wpAny_pure (wpAny_pure ?_)
    show wpAny _ _ (newTuple [x, y] >>= _) _ _ _
    refine wpAny_bind (wpAny_newTuple ?_)
    have hsz : h₃.objs.size = s.heap.objs.size := by rw [hs₃.1, hs₂.1, hs₁.1]
    have hz₃ : ZipM h₃ z TI TO mk f' := hs₃.extBut _ _ D.i2z.symm (hs₂.extBut _ _ D.i1z.symm hz₁)
    have hk : ∀ c o, c ≠ z → c ≠ i1 → c ≠ i2 → s.heap.get? c = some o → h₃.get? c = some o := fun c o c1 c2 c3 e => hs₃.extBut _ _ c3 (hs₂.extBut _ _ c2 (hs₁.extBut _ _ c1 e))
    have h1₃ : h₃.IsTupleIter i1 l1 (k1 + 1) := h1₂.extBut hs₃.extBut D.i12
    refine wpAny_pure ⟨_, rfl, ?_⟩
    show Q (.ref h₃.objs.size) _
    have hp : IsPair (h₃.push { cls := .type "tuple", data := .seq #[x, y] }) h₃.objs.size x y := Heap.get?_push_size _ rfl
    have hz4 : (h₃.push { cls := .type "tuple", data := .seq #[x, y] }).objs.size = h₃.objs.size + 1 := Heap.size_push ..
    rw [hsz] at hp hz4 ⊢
    exact hQ _ mk f' a b hm (Heap.get?_push_of_some _ hz₃) (Heap.get?_push_of_some _ (hk _ _ D.TOz D.TOi1 D.TOi2 hTO)) (h1₃.at fun o e => Heap.get?_push_of_some _ e) (h2₃.at fun o e => Heap.get?_push_of_some _ e) hp hz4 fun c o c1 _ c2 c3 e => Heap.get?_push_of_some _ (hk c o c1 c2 c3 e)
theorem zipM_end {z TI TO i1 i2 l1 l2 : Addr} {mk : Value} {f : Bool} {k1 k2 : Nat} {xs ys : Array Value} {a b : Value} {Q : Fin → Shared → Prop} (hh : A.handled = none) (D : ZipApart z TI TO i1 i2 l1 l2) (hm : MkOk mk)
    (hz : ZipM s.heap z TI TO mk f) (hTI : IsPair s.heap TI (.ref i1) (.ref i2)) (hTO : IsPair s.heap TO a b)
    (h1 : s.heap.IsTupleIter i1 l1 k1) (h2 : s.heap.IsTupleIter i2 l2 k2) (hl1 : s.heap.IsTuple l1 xs) (hl2 : s.heap.IsTuple l2 ys) (hend : xs[k1]? = none ∨ ys[k2]? = none)
    (hE : ∀ h' e, (∀ c o, c ≠ z → c ≠ TO → c ≠ i1 → c ≠ i2 → s.heap.get? c = some o → h'.get? c = some o) → (∃ o, h'.get? e = some o ∧ o.cls = .type "StopIteration") → E (.ref e) { s with heap := h' }) :
    wpAny (model prog w) A (Builtin.«zip.__next__» ⟨[.ref z], []⟩) Q E s := by
  show wpAny _ _ (field (.ref z) 2 >>= _) _ _ _
  refine wpAny_bind (wpAny_field hz rfl (x := .bool false) rfl ?_)
  show wpAny _ _ (field (.ref z) 3 >>= _) _ _ _
  refine wpAny_bind (wpAny_field hz rfl (x := .ref TI) rfl ?_)
  refine wpAny_bind (wpAny_seqItems hTI rfl ?_)
  show wpAny _ _ (Builtin.SmallTypes.ownedTupleIsFree (.ref z) >>= _) _ _ _
  refine wpAny_bind (owned_any hm hz ?_ ?_)
  · simp only [if_true]
    refine wpAny_bind (wpAny_rule ?_)
    refine wpAny_bind (wpAny_field hz rfl (x := .ref TO) rfl ?_)
    refine wpAny_bind (wpAny_setField_rec hz (by simp) fun h₁ hz₁ hs₁ => ?_)
    replace hz₁ : ZipM h₁ z TI TO .ellipsis f := hz₁
    refine wpAny_bind ?_
    simp only [List.zipIdx_cons, List.zipIdx_nil, List.forIn_cons, List.forIn_nil]
    refine wpAny_bind (wpAny_bind (wpAny_onRaise ?_))
    show wpAny _ _ (Builtin.SmallTypes.nextOf (.ref i1) >>= _) _ _ _
    cases hx : xs[k1]? with
    | none =>
      refine wpAny_bind (RZ.nextOf_tuple_end hh (h1.extBut hs₁.extBut D.i1z) (hl1.extBut hs₁.extBut D.l1z) hx fun h₂ e hs₂ he => ?_)
      obtain ⟨oe, hoe, hce⟩ := he
      have hz₂ : ZipM h₂ z TI TO .ellipsis f := hs₂ _ _ D.i1z.symm hz₁
      have hez : e ≠ z := fun x => by subst x; rw [hz₂] at hoe; cases hoe; simp at hce
      refine wpAny_setField_rec hz₂ (by simp) fun h₃ _ hs₃ => hE h₃ e (fun c o c1 _ c3 _ x => hs₃.extBut _ _ c1 (hs₂ _ _ c3 (hs₁.extBut _ _ c1 x))) ⟨oe, hs₃.extBut _ _ hez hoe, hce⟩
    | some x =>
      have hy : ys[k2]? = none := by rcases hend with h | h; rw [hx] at h; cases h; exact h
      refine wpAny_bind (RZ.nextOf_tuple_item (h1.extBut hs₁.extBut D.i1z) (hl1.extBut hs₁.extBut D.l1z) hx fun h₂ h1₂ hs₂ => wpAny_pure ?_)
      have hTO₂ : IsPair h₂ TO a b := hs₂.extBut _ _ D.TOi1 (hs₁.extBut _ _ D.TOz hTO)
      refine wpAny_bind (wpAny_seqItems hTO₂ rfl ?_)
      refine wpAny_bind (wpAny_updateSeq_pair hTO₂ fun h₃ hTO₃ hs₃ => ?_)
      refine wpAny_bind (wpAny_letGo (wpAny_pure ?_))
      refine wpAny_bind (wpAny_bind (wpAny_onRaise ?_))
      show wpAny _ _ (Builtin.SmallTypes.nextOf (.ref i2) >>= _) _ _ _
      refine wpAny_bind (RZ.nextOf_tuple_end hh (((h2.extBut hs₁.extBut D.i2z).extBut hs₂.extBut D.i12.symm).extBut hs₃.extBut D.TOi2.symm)
        (((hl2.extBut hs₁.extBut D.l2z).extBut hs₂.extBut D.l2i1).extBut hs₃.extBut D.l2TO) hy fun h₄ e hs₄ he => ?_)
      obtain ⟨oe, hoe, hce⟩ := he
      have hz₄ : ZipM h₄ z TI TO .ellipsis f := hs₄ _ _ D.i2z.symm (hs₃.extBut _ _ D.TOz.symm (hs₂.extBut _ _ D.i1z.symm hz₁))
      have hez : e ≠ z := fun x => by subst x; rw [hz₄] at hoe; cases hoe; simp at hce
      refine wpAny_setField_rec hz₄ (by simp) fun h₅ _ hs₅ => hE h₅ e (fun c o c1 c2 c3 c4 x => hs₅.extBut _ _ c1 (hs₄ _ _ c4 (hs₃.extBut _ _ c2 (hs₂.extBut _ _ c3 (hs₁.extBut _ _ c1 x))))) ⟨oe, hs₅.extBut _ _ hez hoe, hce⟩
  · intro h₁ f' hz₁ hs₁
    simp only [Bool.false_eq_true, if_false]
    refine wpAny_bind ?_
    rw [← Array.forIn_toList]
    simp only [List.forIn_cons, List.forIn_nil]
    refine wpAny_bind (wpAny_bind (wpAny_holding ?_))
    show wpAny _ _ (Builtin.SmallTypes.nextOf (.ref i1) >>= _) _ _ _
    cases hx : xs[k1]? with
    | none =>
      refine wpAny_bind (RZ.nextOf_tuple_end (s := { s with heap := h₁ }) hh (h1.extBut hs₁.extBut D.i1z) (hl1.extBut hs₁.extBut D.l1z) hx fun h₂ e hs₂ he => ?_)
      exact hE h₂ e (fun c o c1 _ c2 _ x => hs₂ _ _ c2 (hs₁.extBut _ _ c1 x)) he
    | some x =>
      have hy : ys[k2]? = none := by rcases hend with h | h; rw [hx] at h; cases h; exact h
      refine wpAny_bind (RZ.nextOf_tuple_item (s := { s with heap := h₁ }) (h1.extBut hs₁.extBut D.i1z) (hl1.extBut hs₁.extBut D.l1z) hx fun h₂ h1₂ hs₂ => wpAny_pure ?_)
      refine wpAny_pure ?_
      refine wpAny_bind (wpAny_bind (wpAny_holding ?_))
      show wpAny _ _ (Builtin.SmallTypes.nextOf (.ref i2) >>= _) _ _ _
      refine wpAny_bind (RZ.nextOf_tuple_end (s := { s with heap := h₂ }) hh ((h2.extBut hs₁.extBut D.i2z).extBut hs₂.extBut D.i12.symm) ((hl2.extBut hs₁.extBut D.l2z).extBut hs₂.extBut D.l2i1) hy fun h₃ e hs₃ he => ?_)
      exact hE h₃ e (fun c o c1 _ c2 c3 x => hs₃ _ _ c3 (hs₂.extBut _ _ c2 (hs₁.extBut _ _ c1 x))) he
end
section
variable {prog : Program} {w : World} {A : Around} {E : Value → Shared → Prop} {s : Shared}
theorem nextOf_zip {z : Addr} {Q : Value → Shared → Prop} (hT : s.TypeIs (.ref z) "zip") (h : wpAny (model prog w) A.in1 (Builtin.«zip.__next__» ⟨[.ref z], []⟩) (fun fin s' => ∃ v, fin = .done (.ret v) ∧ Q v s') E s) :
    wpAny (model prog w) A (Builtin.SmallTypes.nextOf (.ref z)) Q E s := by
  unfold Builtin.SmallTypes.nextOf
  refine wpAny_bind (wpAny_callSpecial?_slot (name := Str.ofString "__next__") hT F.slot_zip_next
    (wpAny_call_entry F.slot_zip_next hT F.entry_zip_next (wpAny_mono h (fun fin s' q => ?_) fun _ _ q => q) (F.args_zip_next_1 _)))
  obtain ⟨v, rfl, q⟩ := q
  exact ⟨v, rfl, wpAny_pure q⟩
end
section
variable {prog : Program} {w : World} {A : Around} {E : Value → Shared → Prop} {s : Shared}
/-- enumerate's step over an iterator that gives a new object of its own -/
theorem enum_item_of {e it : Addr} {i : Nat} {R : Value → Heap → Prop} {old : Value} {Q : Option Value → Shared → Prop}
    (he : IsEnum s.heap e it i old)
    (hd : ∀ (Q : Value → Shared → Prop) (E : Value → Shared → Prop), (∀ x h', IsEnum h' e it i old → R x h' → Q x { s with heap := h' }) → wpAny (model prog w) A.in1 (Builtin.SmallTypes.nextOf (.ref it)) Q E s)
    (hQ : ∀ x h₁ h', R x h₁ → e < h₁.objs.size → IsEnumOut h' e it ((i : Int) + 1) x h₁.objs.size →
      h'.get? h₁.objs.size = some { cls := .type "tuple", data := .seq #[.int i s.toks, x] } → h'.objs.size = h₁.objs.size + 1 →
      (∀ b o, b ≠ e → h₁.get? b = some o → h'.get? b = some o) → Q (some (.ref h₁.objs.size)) { s with heap := h', toks := s.toks + 1 }) :
    wpAny (model prog w) A (pyNext (.ref e)) Q E s := by
  have hT : s.TypeIs (.ref e) "enumerate" := ⟨_, he, rfl⟩
  unfold pyNext
  refine wpAny_bind (wpAny_attempt (wpAny_callSpecial?_slot (name := Str.ofString "__next__") hT F.slot_enumerate_next
    (wpAny_call_entry F.slot_enumerate_next hT F.entry_enumerate_next ?_ (F.args_enumerate_next_1 _))))
  obtain ⟨hp, g, d, tk, os⟩ := s
  show wpAny _ _ (field (.ref e) 2 >>= _) _ _ _
  refine wpAny_bind (wpAny_field he rfl (x := .ref it) rfl ?_)
  refine wpAny_bind (hd _ _ fun x h₁ he₁ hR => ?_)
  show wpAny _ _ (field (.ref e) 3 >>= _) _ _ ⟨h₁, g, d, tk, os⟩
  refine wpAny_bind (wpAny_field he₁ rfl (x := rawInt i) rfl ?_)
  show wpAny _ _ (field (.ref e) 4 >>= _) _ _ ⟨h₁, g, d, tk, os⟩
  refine wpAny_bind (wpAny_field he₁ rfl (x := .none) rfl ?_)
  show wpAny _ _ (mkInt i >>= _) _ _ ⟨h₁, g, d, tk, os⟩
  refine wpAny_bind (wpAny_mkInt ?_)
  show wpAny _ _ (setField (.ref e) 3 (rawInt ((i : Int) + 1)) >>= _) _ _ ⟨h₁, g, d, tk + 1, os⟩
  refine wpAny_bind (wpAny_setField_rec he₁ (by simp) fun h₂ he₂ hs₂ => ?_)
  replace hs₂ : Heap.SameBut e h₁ h₂ := hs₂
  replace he₂ : IsEnum h₂ e it ((i : Int) + 1) old := he₂
  show wpAny _ _ (setField (.ref e) 4 .none >>= _) _ _ ⟨h₂, g, d, tk + 1, os⟩
  refine wpAny_bind (wpAny_setField_rec he₂ (by simp) fun h₃ he₃ hs₃ => ?_)
  replace hs₃ : Heap.SameBut e h₂ h₃ := hs₃
  replace he₃ : IsEnum h₃ e it ((i : Int) + 1) old := he₃
  show wpAny _ _ (newTuple [.int i tk, x] >>= _) _ _ ⟨h₃, g, d, tk + 1, os⟩
  refine wpAny_bind (wpAny_newTuple ?_)
  have he₄ : IsEnum (h₃.push { cls := .type "tuple", data := .seq #[.int i tk, x] }) e it ((i : Int) + 1) old := Heap.get?_push_of_some _ he₃
  generalize hh₄ : h₃.push { cls := .type "tuple", data := .seq #[.int i tk, x] } = h₄ at he₄
  have hsz : h₃.objs.size = h₁.objs.size := by rw [hs₃.1, hs₂.1]
  have hel : e < h₁.objs.size := Heap.lt_size he₁
  have ht₄ : h₄.get? h₁.objs.size = some { cls := .type "tuple", data := .seq #[.int i tk, x] } := by rw [← hh₄, ← hsz]; exact Heap.get?_push_size _ rfl
  have hz₄ : h₄.objs.size = h₁.objs.size + 1 := by rw [← hh₄, Heap.size_push, hsz]
  have hk₄ : ∀ b o, b ≠ e → h₁.get? b = some o → h₄.get? b = some o := fun b o hbe hb => by
    rw [← hh₄]; exact Heap.get?_push_of_some _ (hs₃.extBut b o hbe (hs₂.extBut b o hbe hb))
  show wpAny _ _ (Builtin.SmallTypes.ownedTupleIsFree (.ref e) >>= _) _ _ ⟨h₄, g, d, tk + 1, os⟩
  rw [hsz]
  refine wpAny_bind ?_
  · unfold Builtin.SmallTypes.ownedTupleIsFree
    refine wpAny_bind (wpAny_field he₄ rfl (x := .none) rfl (wpAny_pure ?_))
    simp only [if_true]
    refine wpAny_bind (wpAny_rule ?_)
    refine wpAny_bind (wpAny_field he₄ rfl (x := old) rfl ?_)
    refine wpAny_bind (wpAny_setField_rec he₄ (by simp) fun h₅ he₅ hs₅ => ?_)
    replace hs₅ : Heap.SameBut e h₄ h₅ := hs₅
    replace he₅ : IsEnum h₅ e it ((i : Int) + 1) x := he₅
    show wpAny _ _ (Builtin.SmallTypes.ownedTupleHandOut (.ref e) (.ref h₁.objs.size) >>= _) _ _ ⟨h₅, g, d, tk + 1, os⟩
    refine wpAny_bind ?_
    · unfold Builtin.SmallTypes.ownedTupleHandOut
      refine wpAny_bind (wpAny_setField_rec he₅ (by simp) fun h₆ he₆ hs₆ => ?_)
      replace hs₆ : Heap.SameBut e h₅ h₆ := hs₆
      replace he₆ : IsEnumOut h₆ e it ((i : Int) + 1) x h₁.objs.size := he₆
      refine wpAny_setField_rec he₆ (by simp) fun h₇ he₇ hs₇ => ?_
      replace hs₇ : Heap.SameBut e h₆ h₇ := hs₇
      replace he₇ : IsEnumOut h₇ e it ((i : Int) + 1) x h₁.objs.size := he₇
      refine wpAny_bind (wpAny_letGo (wpAny_pure ⟨_, rfl, wpAny_pure (hQ x h₁ h₇ hR hel he₇ ?_ ?_ ?_)⟩))
      · exact hs₇.extBut _ _ (Nat.ne_of_gt hel) (hs₆.extBut _ _ (Nat.ne_of_gt hel) (hs₅.extBut _ _ (Nat.ne_of_gt hel) ht₄))
      · rw [hs₇.1, hs₆.1, hs₅.1, hz₄]
      · exact fun b o hbe hb => hs₇.extBut b o hbe (hs₆.extBut b o hbe (hs₅.extBut b o hbe (hk₄ b o hbe hb)))
theorem enum_end_zip {e it : Addr} {fp : List Addr} {i : Int} {old : Value} {Q : Option Value → Shared → Prop} (he : IsEnum s.heap e it i old)
    (hd : ∀ (Q : Value → Shared → Prop) (E : Value → Shared → Prop), (∀ h' e, (∀ c o, c ∉ fp → s.heap.get? c = some o → h'.get? c = some o) → (∃ o, h'.get? e = some o ∧ o.cls = .type "StopIteration") → E (.ref e) { s with heap := h' }) → wpAny (model prog w) A.in1 (Builtin.SmallTypes.nextOf (.ref it)) Q E s)
    (hQ : ∀ h', (∀ c o, c ∉ fp → s.heap.get? c = some o → h'.get? c = some o) → Q none { s with heap := h' }) : wpAny (model prog w) A (pyNext (.ref e)) Q E s := by
  have hT : s.TypeIs (.ref e) "enumerate" := ⟨_, he, rfl⟩
  unfold pyNext
  refine wpAny_bind (wpAny_attempt (wpAny_callSpecial?_slot (name := Str.ofString "__next__") hT F.slot_enumerate_next
    (wpAny_call_entry F.slot_enumerate_next hT F.entry_enumerate_next ?_ (F.args_enumerate_next_1 _))))
  show wpAny _ _ (field (.ref e) 2 >>= _) _ _ _
  refine wpAny_bind (wpAny_field he rfl (x := .ref it) rfl ?_)
  refine wpAny_bind (hd _ _ fun h' x he' hx' => ?_)
  obtain ⟨o, ho, hc⟩ := hx'
  refine wpAny_bind (wpAny_isInstance (T := "StopIteration") (b := true) ⟨o, ho, hc⟩ isSubtype_stop ?_)
  exact wpAny_pure (hQ _ he')
end
/-- the tuples at a and b at each turn, the items in a new pair within a new pair -/
def IteZ (K : PySem.W.Frag) (a b : Addr) : It :=
  ⟨fun i H => ∃ (xs ys : List V) (x y : V), SqT K H a xs ∧ SqT K H b ys ∧ xs[i]? = some x ∧ ys[i]? = some y,
    fun i H v H' => ∃ T U x y, v = .ref U ∧ H T = none ∧ H U = none ∧ U ≠ T ∧ H' = upd (upd H T (.tup [x, y])) U (.tup [.int (i : Nat), .ref T]) ∧ (∀ xs, SqT K H a xs → xs[i]? = some x) ∧ ∀ ys, SqT K H b ys → ys[i]? = some y,
    fun i H => ∃ xs ys : List V, SqT K H a xs ∧ SqT K H b ys ∧ (xs.length ≤ i ∨ ys.length ≤ i)⟩
theorem turn_enumZ {P : Program} {w : World} {K : PySem.W.Frag} {elts : List Expr} {kk : Nat} {tpos : Pos} {a b z TI TO i1 i2 : Addr} (e : Addr) (D : ZipApart z TI TO i1 i2 a b) :
    Turn P w K (.Tuple elts kk tpos) (IteZ K a b) [e, z, TI, TO, i1, i2] e (fun i h => (∃ old, IsEnum h e z ((i : Nat) : Int) old) ∧ (∃ mk f, MkOk mk ∧ ZipM h z TI TO mk f) ∧ IsPair h TI (.ref i1) (.ref i2) ∧ (∃ x y, IsPair h TO x y) ∧ h.IsTupleIter i1 a i ∧ h.IsTupleIter i2 b i ∧ e ∉ [z, TI, TO, i1, i2]) where
  mem := by simp
  obj := fun i h st c hc => by
    obtain ⟨⟨old, he⟩, ⟨mk, f, hm, hz⟩, hTI, ⟨x, y, hTO⟩, ⟨o1, e1, _, d1⟩, ⟨o2, e2, _, d2⟩, _⟩ := st
    have e' : c = e ∨ c = z ∨ c = TI ∨ c = TO ∨ c = i1 ∨ c = i2 := by simpa using hc
    rcases e' with q | q | q | q | q | q
    · rw [q]; exact ⟨_, he, fun v q => nomatch q⟩
    · rw [q]; exact ⟨_, hz, fun v q => nomatch q⟩
    · rw [q]; exact ⟨_, hTI, fun v q => nomatch q⟩
    · rw [q]; exact ⟨_, hTO, fun v q => nomatch q⟩
    · rw [q]; exact ⟨o1, e1, fun v q => by rw [d1] at q; cases q⟩
    · rw [q]; exact ⟨o2, e2, fun v q => by rw [d2] at q; cases q⟩
  keep := fun i h h' st k => by
    obtain ⟨⟨old, he⟩, ⟨mk, f, hm, hz⟩, hTI, ⟨x, y, hTO⟩, h1, h2, hn⟩ := st
    exact ⟨⟨old, k e (by simp) _ he⟩, ⟨mk, f, hm, k z (by simp) _ hz⟩, k TI (by simp) _ hTI, ⟨x, y, k TO (by simp) _ hTO⟩, h1.at fun o q => k i1 (by simp) o q, h2.at fun o q => k i2 (by simp) o q, hn⟩
  item := by
    intro X hP hw hK hc i pins s σ H E I hf st hg
    subst hP hw hK
    obtain ⟨⟨old, he⟩, ⟨mk, f, hm, hz⟩, hTI, ⟨x0, y0, hTO⟩, h1, h2, hn⟩ := st
    have hn' : e ≠ z ∧ e ≠ TI ∧ e ≠ TO ∧ e ≠ i1 ∧ e ≠ i2 := by simpa using hn
    obtain ⟨nz, nTI, nTO, n1, n2⟩ := hn'
    obtain ⟨xs, ys, x, y, hqx, hqy, hx, hy⟩ := hg
    obtain ⟨its, rv, p, _⟩ := I.tuple hqx
    obtain ⟨its2, rv2, p2, _⟩ := I.tuple hqy
    obtain ⟨u, hu, ru⟩ := rv.get hx
    obtain ⟨u2, hu2, ru2⟩ := rv2.get hy
    have hlt : ∀ c, c ∈ [e, z, TI, TO, i1, i2] → c < s.heap.objs.size := fun c hcm => by
      have e' : c = e ∨ c = z ∨ c = TI ∨ c = TO ∨ c = i1 ∨ c = i2 := by simpa using hcm
      rcases e' with q | q | q | q | q | q
      · rw [q]; exact Heap.lt_size he
      · rw [q]; exact Heap.lt_size hz
      · rw [q]; exact Heap.lt_size hTI
      · rw [q]; exact Heap.lt_size hTO
      · rw [q]; obtain ⟨_, e1, _⟩ := h1; exact Heap.lt_size e1
      · rw [q]; obtain ⟨_, e2, _⟩ := h2; exact Heap.lt_size e2
    refine enum_item_of (R := fun v h' => v = .ref s.heap.objs.size ∧ (∃ mk' f', MkOk mk' ∧ ZipM h' z TI TO mk' f') ∧ (∃ a' b', IsPair h' TO a' b') ∧ h'.IsTupleIter i1 a (i + 1) ∧ h'.IsTupleIter i2 b (i + 1) ∧ IsPair h' s.heap.objs.size u u2 ∧ h'.objs.size = s.heap.objs.size + 1 ∧
      (∀ c o, c ≠ z → c ≠ TO → c ≠ i1 → c ≠ i2 → s.heap.get? c = some o → h'.get? c = some o)) he (fun Q' E' hk => ?_) fun v h₁ h' hR hel ho hT hsz hk => ?_
    · refine nextOf_zip ⟨_, hz, rfl⟩ (zipM_item D hm hz hTI hTO h1 h2 p p2 (x := u) (y := u2) (by simpa using hu) (by simpa using hu2) fun h' mk' f' a' b' m' z' TO' h1' h2' hT hsz hk' => ?_)
      exact hk _ h' (hk' _ _ nz nTO n1 n2 he) ⟨rfl, ⟨mk', f', m', z'⟩, ⟨a', b', TO'⟩, h1', h2', hT, hsz, hk'⟩
    · obtain ⟨rfl, ⟨mk', f', m', z'⟩, ⟨a', b', TO'⟩, h1', h2', hT1, hsz1, hk1⟩ := hR
      have hel0 : e < s.heap.objs.size := Heap.lt_size he
      have hT0e : s.heap.objs.size ≠ e := Nat.ne_of_gt hel0
      have new1 : ObjOk X.prog X.w (upd H s.heap.objs.size (.tup [x, y])) h₁ s.heap.objs.size (.tup [x, y]) :=
        ⟨by show 2 ≤ sizeLine; decide, [u, u2], .cons ru (.cons ru2 .nil), ⟨_, hT1, rfl, _, rfl⟩⟩
      have hf1 : ∀ b ∈ [z, TO, i1, i2], FpOk X pins H b := fun c hcm => hf c (by
        have e' : c = z ∨ c = TO ∨ c = i1 ∨ c = i2 := by simpa using hcm
        rcases e' with q | q | q | q <;> rw [q] <;> simp)
      have I1 : Inv X pins σ (upd H s.heap.objs.size (.tup [x, y])) { s with heap := h₁ } :=
        I.turnedNew (t' := s.toks) (ch := [z, TO, i1, i2]) (fun c o hb q => hk1 c o (fun q' => hb (by simp [q'])) (fun q' => hb (by simp [q'])) (fun q' => hb (by simp [q'])) (fun q' => hb (by simp [q'])) q) hf1 (Nat.le_refl _) new1
      refine ⟨_, rfl, wpAny_letOwnedTupleGo_enum (s := { s with heap := h', toks := s.toks + 1 }) ho fun h'' he' sb => ?_⟩
      have hT2 : h''.get? h₁.objs.size = some { cls := .type "tuple", data := .seq #[.int i s.toks, .ref s.heap.objs.size] } := (sb.2 _ (Nat.ne_of_gt hel)).trans hT
      have new2 : ObjOk X.prog X.w (upd (upd H s.heap.objs.size (.tup [x, y])) h₁.objs.size (.tup [.int (i : Nat), .ref s.heap.objs.size])) h'' h₁.objs.size (.tup [.int (i : Nat), .ref s.heap.objs.size]) :=
        ⟨by show 2 ≤ sizeLine; decide, [.int i s.toks, .ref s.heap.objs.size], .cons ⟨_, rfl⟩ (.cons rfl .nil), ⟨_, hT2, rfl, _, rfl⟩⟩
      have fe : FpOk X pins (upd H s.heap.objs.size (.tup [x, y])) e := by
        obtain ⟨f0, f1⟩ := hf e (by simp)
        exact ⟨by rw [upd_ne hT0e.symm]; exact f0, f1⟩
      have I2 : Inv X pins σ (upd (upd H s.heap.objs.size (.tup [x, y])) h₁.objs.size (.tup [.int (i : Nat), .ref s.heap.objs.size])) { s with heap := h'', toks := s.toks + 1 } :=
        I1.turnedNew (t' := s.toks + 1) (ch := [e]) (fun c o hb q => (sb.2 c (fun q' => hb (by simp [q']))).trans (hk c o (fun q' => hb (by simp [q'])) q)) (fun c hcm => by
          have : c = e := by simpa using hcm
          rw [this]; exact fe) (Nat.le_refl _) new2
      have kk : ∀ c o, c ≠ e → h₁.get? c = some o → h''.get? c = some o := fun c o hc q => (sb.2 c hc).trans (hk c o hc q)
      have fr2 : H h₁.objs.size = none := I.hok.fresh (by rw [hsz1]; exact Nat.le_succ _)
      refine ⟨.ref h₁.objs.size, _, I2, rfl, ⟨s.heap.objs.size, h₁.objs.size, x, y, rfl, I.hok.fresh (Nat.le_refl _), fr2, by rw [hsz1]; exact Nat.succ_ne_self _, rfl, fun l hl => by rw [I.tuple_inj hl hqx]; exact hx, fun l hl => by rw [I.tuple_inj hl hqy]; exact hy⟩, ⟨⟨.ref s.heap.objs.size, ?_⟩, ⟨mk', f', m', kk _ _ nz.symm z'⟩, kk _ _ nTI.symm (hk1 _ _ D.TIz D.TITO D.TIi1 D.TIi2 hTI), ⟨a', b', kk _ _ nTO.symm TO'⟩, h1'.at fun o q => kk _ o n1.symm q, h2'.at fun o q => kk _ o n2.symm q, hn⟩, fun c hcm => ?_⟩
      · have e1 : ((i + 1 : Nat) : Int) = (i : Int) + 1 := by omega
        rw [e1]; exact he'
      · have l0 := hlt c hcm
        rw [upd_ne (Nat.ne_of_lt (by rw [hsz1]; exact Nat.lt_succ_of_lt l0)), upd_ne (Nat.ne_of_lt l0)]
        exact (hf c hcm).1
  done := by
    intro X hP hw hK hc i pins s σ H E I hf st hg
    subst hP hw hK
    obtain ⟨⟨old, he⟩, ⟨mk, f, hm, hz⟩, hTI, ⟨x0, y0, hTO⟩, h1, h2, hn⟩ := st
    obtain ⟨xs, ys, hqx, hqy, hend⟩ := hg
    obtain ⟨its, rv, p, _⟩ := I.tuple hqx
    obtain ⟨its2, rv2, p2, _⟩ := I.tuple hqy
    have l1 := rv.length
    have l2 := rv2.length
    have hq : its.toArray[i]? = none ∨ its2.toArray[i]? = none := by
      rcases hend with q | q
      · exact .inl (by simp; omega)
      · exact .inr (by simp; omega)
    refine enum_end_zip (fp := [e, z, TI, TO, i1, i2]) he (fun Q' E' hE => nextOf_zip ⟨_, hz, rfl⟩ (zipM_end (show X.A.in1.in1.handled = none from I.ok.hd hc) D hm hz hTI hTO h1 h2 p p2 hq fun h' e' hk he' => hE h' e' (fun c o hc q => hk c o (fun q' => hc (by simp [q'])) (fun q' => hc (by simp [q'])) (fun q' => hc (by simp [q'])) (fun q' => hc (by simp [q'])) q) he')) fun h' hk => ⟨rfl, I.turnedL (t' := s.toks) (ch := [e, z, TI, TO, i1, i2]) hk hf⟩
  self := fun A i s Q E st h => let ⟨⟨_, he⟩, _⟩ := st; wpAny_pyIter_enum he h
theorem itr_enumZ {K : PySem.W.Frag} {w : W3} {a b : Addr} {ds es : List PyData} (h : Dp K w.h (.ref a) (.tuple ds)) (h' : Dp K w.h (.ref b) (.tuple es)) : ItR K w (IteZ K a b) (enum3 (zip3 ds es)) fun _ => True := fun w' H S e r _ => by
  obtain ⟨a', xs, ea, hqa, ha⟩ := dp_tup_ref (dp_mono e.h _ _ h)
  obtain ⟨b', ys, eb, hqb, hb⟩ := dp_tup_ref (dp_mono e.h _ _ h')
  cases ea
  cases eb
  have hqa' := Same.sqT r.sub hqa
  have hqb' := Same.sqT r.sub hqb
  have la := DpAll.length ha
  have lb := DpAll.length hb
  refine ⟨fun i hi => ⟨xs, ys, hqa', hqb', by rw [enum3_len, zip3_len] at hi; omega⟩, fun i x hx => ?_⟩
  obtain ⟨x0, g0, rfl⟩ := enum3_get hx
  obtain ⟨x1, x2, g1, g2, rfl⟩ := zip3_get g0
  obtain ⟨v1, k1, k2⟩ := DpAll.get ha g1
  obtain ⟨v2, k3, k4⟩ := DpAll.get hb g2
  refine ⟨⟨xs, ys, v1, v2, hqa', hqb', k1, k3⟩, fun v H' y => ?_⟩
  obtain ⟨T, U, y1, y2, rfl, hn, hn2, hUT, rfl, z1, z2⟩ := y
  have := (z1 _ hqa').symm.trans k1
  cases this
  have := (z2 _ hqb').symm.trans k3
  cases this
  obtain ⟨w1, e1, r1, p1⟩ := pair_in r hn k2 k4
  obtain ⟨w2, e2, r2, p2⟩ := pair_in r1 (T := U) (by rw [upd_ne hUT]; exact hn2) (.int ((i : Nat) : Int)) p1
  exact ⟨w2, e1.trans e2, r2, p2⟩
section
variable {X : Cx} {e e2 : Expr} {ta : TA} {te : TA3} {p p2 pos pos2 tpos : Pos} {elts : List Expr} {kk : Nat}
def iEnumZ (K : PySem.W.Frag) (ta : TA) : TI := fun σ H R => ta σ H fun vs H1 => ∃ a b xs ys, vs = [.ref a, .ref b] ∧ SqT K H1 a xs ∧ SqT K H1 b ys ∧ R (IteZ K a b) H1
theorem pi_enumZ (hg : Gl X "enumerate") (hm : X.mg "enumerate" = none) (hg2 : Gl X "zip") (hm2 : X.mg "zip" = none) (ha : PA X [e, e2] ta)
    (hs : starEach [e, e2] X.env = (false, eval e X.env) :: starEach [e2] X.env := by rfl) (hpl : (backTo pos2 (starEach [e2] X.env)).any (·.1) = false := by rfl)
    (hs2 : starEach [.Call (.Name "zip" p2) [e, e2] [] pos2] X.env = (false, eval (.Call (.Name "zip" p2) [e, e2] [] pos2) X.env) :: starEach [] X.env := by rfl) :
    PI X (.Tuple elts kk tpos) (.Call (.Name "enumerate" p) [.Call (.Name "zip" p2) [e, e2] [] pos2] [] pos) (iEnumZ X.K ta) := by
  refine ⟨fun pins s σ H R I h => ?_⟩
  have inner : wpAny (model X.prog X.w) X.A (eval (.Call (.Name "zip" p2) [e, e2] [] pos2) X.env) (fun u s2 => ∃ (z a b : Addr) (H1 : Hp) (s0 : Shared), u = Value.ref z ∧ Inv X pins σ H1 s2 ∧ (∃ TI TO i1 i2, ZipApart z TI TO i1 i2 a b ∧ IsZip s2.heap z TI TO .none ∧ IsPair s2.heap TI (.ref i1) (.ref i2) ∧ (∃ x y, IsPair s2.heap TO x y) ∧ s2.heap.IsTupleIter i1 a 0 ∧ s2.heap.IsTupleIter i2 b 0 ∧ ∀ c ∈ [z, TI, TO, i1, i2], FpOk X pins H1 c) ∧ R (IteZ X.K a b) H1) X.xe s := by
    refine Call_ (ld_blt I hg2 hm2 PyProof.Rows.boot_zip (PyProof.Rows.callWith_type1 (thn (ha.run pos2 pins s σ H _ I h) fun us s1 ⟨vs, H1, I1, r1, q1⟩ => ?_) hs hpl))
    obtain ⟨a, b, xs, ys, ex, hqx, hqy, q⟩ := q1
    subst ex
    cases r1 with
    | cons r rr =>
      cases rr with
      | cons r' rr =>
        cases rr
        cases r
        cases r'
        have fresh5 : ∀ c, c ∈ [s1.heap.objs.size + 4, s1.heap.objs.size + 2, s1.heap.objs.size + 3, s1.heap.objs.size, s1.heap.objs.size + 1] → FpOk X pins H1 c := fun c hcm => by
          have e' : c = s1.heap.objs.size + 4 ∨ c = s1.heap.objs.size + 2 ∨ c = s1.heap.objs.size + 3 ∨ c = s1.heap.objs.size ∨ c = s1.heap.objs.size + 1 := by simpa using hcm
          have hle : s1.heap.objs.size ≤ c := by
            rcases e' with z | z | z | z | z
            · rw [z]; exact Nat.le_add_right _ _
            · rw [z]; exact Nat.le_add_right _ _
            · rw [z]; exact Nat.le_add_right _ _
            · rw [z]; exact Nat.le_refl _
            · rw [z]; exact Nat.le_add_right _ _
          exact I1.fpOk hle (I1.hok.fresh hle)
        obtain ⟨its, rv, p1, _⟩ := I1.tuple hqx
        obtain ⟨its2, rv2, p2, _⟩ := I1.tuple hqy
        obtain ⟨o1, ho1, _⟩ := id p1
        obtain ⟨o2, ho2, _⟩ := id p2
        refine RZ.call_zipT (show s1.heap.IsTuple a its.toArray from p1) (show s1.heap.IsTuple b its2.toArray from p2) fun h' hz hTI hTO h1 h2 hsz hk => ?_
        have I2 : Inv X pins σ H1 { s1 with heap := h' } := I1.kept (t' := s1.toks) hk
        exact ⟨s1.heap.objs.size + 4, a, b, H1, s1, rfl, I2, ⟨s1.heap.objs.size + 2, s1.heap.objs.size + 3, s1.heap.objs.size, s1.heap.objs.size + 1, PySem.W.ktu_apart s1.heap.objs.size a b (Heap.lt_size ho1) (Heap.lt_size ho2), hz, hTI, ⟨_, _, hTO⟩, h1, h2, fresh5⟩, q⟩
  refine Call_ (ld_blt I hg hm boot_enumerate (PyProof.Rows.callWith_type1 (args_cons (thn inner fun u s2 hx => args_nil ?_) hs2) hs2 rfl))
  obtain ⟨z, a, b, H1, _, rfl, I2, ⟨TI, TO, i1, i2, D, hz, hTI, hTO, h1, h2, hf⟩, q⟩ := hx
  refine call_enumG (v := .ref z) (hp' := fun h => h) (it := fun _ => z) (H := fun h => IsZip h z TI TO .none) (fun prog w A E s Q h1 hQ => wpAny_pyIter_zip h1 hQ) hz (fun b o x => x) fun h' he hk hsz => wpAny_pyIter_enum he ?_
  have I3 : Inv X pins σ H1 { s2 with heap := h' } := I2.kept (t' := s2.toks) hk
  have hl : ∀ c ∈ [z, TI, TO, i1, i2], c < s2.heap.objs.size := fun c hcm => by
    have e' : c = z ∨ c = TI ∨ c = TO ∨ c = i1 ∨ c = i2 := by simpa using hcm
    rcases e' with q | q | q | q | q
    · rw [q]; exact Heap.lt_size hz
    · rw [q]; exact Heap.lt_size hTI
    · rw [q]; obtain ⟨_, _, hTO⟩ := hTO; exact Heap.lt_size hTO
    · rw [q]; obtain ⟨_, e1, _⟩ := h1; exact Heap.lt_size e1
    · rw [q]; obtain ⟨_, e2, _⟩ := h2; exact Heap.lt_size e2
  refine ⟨s2.heap.objs.size, [s2.heap.objs.size, z, TI, TO, i1, i2], _, _, H1, rfl, I3, turn_enumZ s2.heap.objs.size D, ⟨⟨.none, he⟩, ⟨.none, false, .inl rfl, hk _ _ hz⟩, hk _ _ hTI, ?_, h1.at fun o q => hk _ o q, h2.at fun o q => hk _ o q, fun z => absurd (hl _ z) (Nat.lt_irrefl _)⟩, fun b hb => ?_, q⟩
  · obtain ⟨x, y, hTO⟩ := hTO
    exact ⟨x, y, hk _ _ hTO⟩
  · rcases List.mem_cons.mp hb with z | z
    · rw [z]
      exact I2.fpOk (Nat.le_refl _) (I2.hok.fresh (Nat.le_refl _))
    · exact hf b z
def tEnumZ3 (te : TA3) : TI3 := fun env S Q => te env S fun ds S1 => match ds with
  | [.p (.tuple xs), .p (.tuple ys)] => Q (enum3 (zip3 xs ys)) (fun _ => True) S1
  | _ => False
theorem qi_enumZ (hc : X.calm = true) (hg : Gl X "enumerate") (hm : X.mg "enumerate" = none) (hg2 : Gl X "zip") (hm2 : X.mg "zip" = none) (ha : QA X [e, e2] te)
    (hs : starEach [e, e2] X.env = (false, eval e X.env) :: starEach [e2] X.env := by rfl) (hpl : (backTo pos2 (starEach [e2] X.env)).any (·.1) = false := by rfl)
    (hs2 : starEach [.Call (.Name "zip" p2) [e, e2] [] pos2] X.env = (false, eval (.Call (.Name "zip" p2) [e, e2] [] pos2) X.env) :: starEach [] X.env := by rfl) :
    QI X (.Tuple elts kk tpos) (.Call (.Name "enumerate" p) [.Call (.Name "zip" p2) [e, e2] [] pos2] [] pos) (tEnumZ3 te) := (pi_enumZ hg hm hg2 hm2 ha hs hpl hs2).imp fun σ H R ⟨w, env, S, Q, r0, en, t, q⟩ => by
  refine ⟨w, env, S, _, r0, en, t, fun w1 vs ds H1 S1 e1 r1 p1 t1 => ?_⟩
  split at t1
  · obtain ⟨v, v2, rfl, p2, p3⟩ := rds2 p1
    obtain ⟨a, xs, rfl, hqa, ha⟩ := dp_tup_ref p2
    obtain ⟨b, ys, rfl, hqb, hb⟩ := dp_tup_ref p3
    have l1 := len_tup r1 p2
    refine ⟨a, b, xs, ys, rfl, Same.sqT r1.sub hqa, Same.sqT r1.sub hqb, q w1 _ H1 S1 _ _ e1 r1 (itr_enumZ p2 p3) (by rw [enum3_len, zip3_len]; omega) t1⟩
  · exact t1.elim
end
/-- walk_ofG over the part without empty tuples and tuples of ints -/
theorem walk_ofGE {l : PySem.W.OpenLaw} {n k : Nat} {q : Program} {loose : List Str} {XP : (Str → Option Value) → Heap → Prop} {YP : World → Heap → Prop} {d : DefRec} {K : Params → PySem.W.Frag} {sp : World → L2.Sp} {x : Str}
    (hn : l.most = some n) (hn2 : n ≤ sizeLine) (hdf : d.params.defaults = []) (hr : Room k callerA)
    (hY : ∀ (w : World) (h : Heap), YP w h → (K w.params).In h) (hs : ∀ w : World, ascB (K w.params) = true)
    (F : ∀ (w : World) (mg : Str → Option Value) (fa : Addr) (h : Heap), (filtK (K w.params)).In h → h.Ns mainGlobals mg → mg d.name = some (.ref fa) →
      ∃ fd : FuncData, (∀ (s : Shared) (u : Value), BindsTo s fd ⟨[u], []⟩ [(x, u)]) ∧
        ∀ base : Heap, (filtK (K w.params)).In base → base.Ns mainGlobals mg → FnG l.prog w (filtK (K w.params)) mg base k fa fd [x] (sp w))
    (hsp : ∀ (w : World) (H : Hp) (a : Addr) (ns : List Int), ns.length ≤ n → Only H → SqL (filtK (K w.params)) H a (ns.map V.int) → sp w [.ref a] H (fun v _ => v = .bl true) fun _ _ _ => False) :
    PySem.W.WalkO q loose XP YP l.row.toRowW d [] (fun f vs => PySem.call f vs) :=
  walk_ofG (K := fun p => filtK (K p)) hn hn2 hdf hr (fun w h Y => in_filt (hs w) (hY w h Y)) F hsp
theorem walk_ofDE {l : PySem.W.OpenLaw} {n k : Nat} {q : Program} {loose : List Str} {XP : (Str → Option Value) → Heap → Prop} {YP : World → Heap → Prop} {d : DefRec} {K : Params → PySem.W.Frag} {sp : World → L2.Sp} {x : Str}
    (hn : l.most = some n) (hn2 : n ≤ sizeLine) (hdf : d.params.defaults = []) (hr : Room k callerA)
    (hY : ∀ (w : World) (h : Heap), YP w h → (K w.params).In h) (hs : ∀ w : World, ascB (K w.params) = true)
    (F : ∀ (w : World) (mg : Str → Option Value) (fa : Addr) (h : Heap), (filtK (K w.params)).In h → h.Ns mainGlobals mg → mg d.name = some (.ref fa) →
      ∃ fd : FuncData, (∀ (s : Shared) (u : Value), BindsTo s fd ⟨[u], []⟩ [(x, u)]) ∧
        ∀ base : Heap, (filtK (K w.params)).In base → base.Ns mainGlobals mg → base.NoDigits → FnG l.prog w (filtK (K w.params)) mg base k fa fd [x] (sp w))
    (hsp : ∀ (w : World) (H : Hp) (a : Addr) (ns : List Int), ns.length ≤ n → Only H → SqL (filtK (K w.params)) H a (ns.map V.int) → sp w [.ref a] H (fun v _ => v = .bl true) fun _ _ _ => False) :
    PySem.W.WalkO q loose XP YP l.row.toRowW d [] (fun f vs => PySem.call f vs) :=
  walk_ofD (K := fun p => filtK (K p)) hn hn2 hdf hr (fun w h Y => in_filt (hs w) (hY w h Y)) F hsp
theorem filt_keep {a : Addr} {o : Obj} (ho : tupOk o = true) : ∀ {K : PySem.W.Frag}, K.lookup a = some o → (filtK K).lookup a = some o
  | [], h => nomatch h
  | (b, x) :: K, h => by
    unfold filtK
    rw [List.filter_cons]
    rw [List.lookup_cons] at h
    split at h
    · rename_i e
      cases h
      rw [if_pos ho, List.lookup_cons, e]
    · rename_i e
      have ih := filt_keep ho h
      split
      · rw [List.lookup_cons, e]
        exact ih
      · exact ih
theorem nsIn_filt {K : PySem.W.Frag} {a : Addr} {x : Str} {r : Option Value} (h : PySem.W.nsIn K a x = some r) : PySem.W.nsIn (filtK K) a x = some r := by
  unfold PySem.W.nsIn at h ⊢
  split at h
  · rename_i hl
    rw [filt_keep (by rfl) hl]
    exact h
  · cases h
theorem codeIn_filt {K : PySem.W.Frag} {v : Value} {x : Str} (h : PySem.W.codeIn K v x = true) : PySem.W.codeIn (filtK K) v x = true := by
  unfold PySem.W.codeIn at h ⊢
  split at h
  · split at h
    · rename_i hl
      rw [filt_keep (by rfl) hl]
      exact h
    · cases h
  · cases h
theorem keepIn_filt {K : PySem.W.Frag} {f : Addr} {c : Value} {d : Option Addr} {fd : FuncData} {sl : Array (Option Value)} (h : K.lookup f = some ⟨c, d, .func fd, sl⟩) : PySem.W.keepIn (filtK K) (.ref f) = true := by
  unfold PySem.W.keepIn
  simp only
  rw [filt_keep (by rfl) h]
end L3

set_option maxHeartbeats 1000000
/-! ### sorted(..) of tuples, empty ones among them -/
namespace L3
open PySem PySem.Spec PySem.Calls PyProof.Rows
section
open PySem.W PySem.SeqAt
variable {prog : Program} {w : World} {A : Around} {E : Value → Shared → Prop} {s : Shared}
/-- the call of tuple's own __lt__, as sorting makes it -/
theorem call_tuple_lt {Q : Value → Shared → Prop} {l b : Addr} {items items2 : Array Value} {e r : Nat → Bool} (hl : s.heap.IsTuple l items) (hb : s.heap.IsTuple b items2)
    (he : ∀ j (h1 : j < items.size) (h2 : j < items2.size), EqAt A.in1 s items[j] items2[j] (e j)) (hr : ∀ j (h1 : j < items.size) (h2 : j < items2.size), e j = false → RcLt A.in1 s items[j] items2[j] (r j))
    (h : Q (.bool (firstLt e r (decide (items.size < items2.size)) (List.range (min items.size items2.size)))) s) : wpAny (model prog w) A (call (.builtin "tuple.__lt__") [.ref l, .ref b]) Q E s := by
  obtain ⟨⟨cls, dd, data, sl⟩, ho, hc, n, hd⟩ := id hl
  obtain ⟨⟨cls2, dd2, data2, sl2⟩, ho2, hc2, n2, hd2⟩ := id hb
  simp only at hc hd hc2 hd2
  subst hc hd hc2 hd2
  exact call_meets F.slot_tuple_lt ⟨_, ho, rfl⟩ F.entry_tuple_lt (F.args_tuple_lt_2 _ _) (PySem.SeqAt.tuple_ltAt l b items items2 n n2 dd dd2 sl sl2 e r) ⟨ho, ho2, he, hr, h⟩
theorem oneLt_tup {f : Bool} {xs ys : List PyData} {a b : Value} {as bs : List Addr} {Q : Bool → Shared → Prop} (ra : Reads s.heap a (.tuple xs) as) (rb : Reads s.heap b (.tuple ys) bs) (h : alike (.tuple xs) (.tuple ys) = true)
    (hu : A.units + min (PyData.tuple xs).depth (PyData.tuple ys).depth < cLine) (hq : Q (dataLt (.tuple xs) (.tuple ys)) s) : wpAny (model prog w) A (oneLt' f a b) Q E s := by
  cases f with
  | false => exact oneLt_alike (fun z => nomatch z) ra rb h (by simp) hu hq
  | true =>
    have hal : alikeAll xs ys = true := by simpa [alike] using h
    cases ra with
    | @tuple l o vs n _ as₁ h1 h2 h3 h4 =>
      cases rb with
      | @tuple l' o' vs' n' _ bs₁ k1 k2 k3 k4 =>
        have n1 : vs.size = xs.length := by simpa using ReadsAll.length _ _ _ h4
        have n2 : vs'.size = ys.length := by simpa using ReadsAll.length _ _ _ k4
        rw [dataLt_tuple, ← firstLt_toks xs ys hal, ← n1, ← n2] at hq
        rw [oneLt'_eq]
        simp only [if_true]
        refine wpAny_bind (wpAny_cRoomFor (room_here hu) ?_)
        refine wpAny_bind (wpAny_callSpecialIfBound?_slot (T := "tuple") ⟨_, h1, h2⟩ F.slot_tuple_lt (call_tuple_lt (e := pairEq xs ys) (r := fun j => dataLt (xs.getD j .none) (ys.getD j .none)) ⟨_, h1, h2, _, h3⟩ ⟨_, k1, k2, _, k3⟩ (fun j j1 j2 => ?_) (fun j j1 j2 hj => ?_) ?_))
        · have := eqAt_alikeAll xs ys A.in1 s vs.toList vs'.toList _ _ h4 k4 hal (room_in hu) j (by simpa using j1) (by simpa using j2)
          simpa using this
        · have := rcLt_alikeAll xs ys A.in1 s vs.toList vs'.toList _ _ h4 k4 hal (room_in hu) j (by simpa using j1) (by simpa using j2) hj
          simpa using this
        · exact wpAny_truthy_bool hq
end
section
open PySem.W
variable {M : Model} {A : Around} {E : Value → Shared → Prop} {s : Shared}
/-- tuples with what stands first in each -/
def TupsO (h : Heap) : List Value → List (Option Value) → Prop
  | [], [] => True
  | v :: vs, f :: fs => (∃ a o xs n, v = .ref a ∧ h.get? a = some o ∧ o.cls = .type "tuple" ∧ o.data = .seq xs n ∧ xs[0]? = f) ∧ TupsO h vs fs
  | _, _ => False
theorem firstsO : ∀ (vs : List Value) (fs : List (Option Value)) {Q : List (Option Value) → Shared → Prop}, TupsO s.heap vs fs → Q fs s → wpAny M A (vs.mapM firstOfTuple') Q E s
  | [], [], _, _, h => by rw [List.mapM_nil]; exact wpAny_pure h
  | [], _ :: _, _, t, _ => t.elim
  | _ :: _, [], _, t, _ => t.elim
  | v :: vs, f :: fs, Q, t, h => by
    obtain ⟨⟨a, o, xs, n, rfl, ho, hc, hd, hf⟩, t⟩ := t
    rw [List.mapM_cons]
    refine wpAny_bind ?_
    rw [kas_first_eq]
    refine wpAny_bind (Looks.here (show Looks M s.heap (typeOf (.ref a)) o.cls from (Looks.ld ho).andThen .now) ?_)
    rw [hc, if_neg (by first | decide | simp)]
    refine wpAny_bind (listItems_at ho hd (wpAny_pure ?_))
    rw [hf]
    exact wpAny_bind (firstsO vs fs (Q := fun bs s' => wpAny M A (pure (f :: bs)) Q E s') t (wpAny_pure h))
theorem tupsO_looks : ∀ {vs : List Value} {fs : List (Option Value)}, TupsO s.heap vs fs → ∀ v ∈ vs, Looks M s.heap (typeOf v) (.type "tuple")
  | [], _, _, v, hv => nomatch hv
  | _ :: _, [], t, _, _ => t.elim
  | u :: vs, f :: fs, t, v, hv => by
    obtain ⟨⟨a, o, xs, n, rfl, ho, hc, hd, hf⟩, t⟩ := t
    rcases List.mem_cons.mp hv with rfl | hv
    · show Looks M s.heap (typeOf (.ref a)) (.type "tuple")
      exact hc ▸ (Looks.ld ho).andThen .now
    · exact tupsO_looks t v hv
theorem tupsO_len : ∀ {vs : List Value} {fs : List (Option Value)} {h : Heap}, TupsO h vs fs → vs.length = fs.length
  | [], [], _, _ => rfl
  | [], _ :: _, _, t => t.elim
  | _ :: _, [], _, t => t.elim
  | _ :: vs, _ :: fs, _, t => by rw [List.length_cons, List.length_cons, tupsO_len t.2]
/-- some tuple is empty: the kind of keys -/
theorem kindO {vs : List Value} {fs : List (Option Value)} {Q : SortKind → Shared → Prop} (t : TupsO s.heap vs fs) (hn : none ∈ fs) (h : Q (if (fs.toArray[0]?.bind id).isSome = true then general' else oneType') s) :
    wpAny M A (keyKind' vs.toArray) Q E s := by
  rw [kat_kind_eq, List.mapM_toArray, map_eq_pure_bind]
  refine wpAny_bind (wpAny_bind (firstsO vs fs t (wpAny_pure ?_)))
  have hall : ¬ (fs.toArray.all fun x => x.isSome) = true := by
    intro z
    simp only [List.all_toArray, List.all_eq_true] at z
    exact absurd (z none hn) (by simp)
  rw [if_neg hall]
  by_cases hf : (fs.toArray[0]?.bind id).isSome = true
  · rw [if_pos hf] at h ⊢
    exact wpAny_pure h
  · rw [if_neg hf] at h ⊢
    rw [oneTypeOnly'_eq, List.mapM_toArray, map_eq_pure_bind]
    refine wpAny_bind (wpAny_bind (wpAny_bind (kas_mapM (r := Value.type "tuple") _ (fun v hv Q' hq => (tupsO_looks t v hv).here hq) (wpAny_pure ?_))))
    have hl := tupsO_len t
    obtain ⟨v₁, vr, rfl⟩ : ∃ v₁ vr, vs = v₁ :: vr := by
      match vs, fs, hn, hl with
      | [], [], hn, _ => exact absurd hn (by simp)
      | v₁ :: vr, _, _, _ => exact ⟨v₁, vr, rfl⟩
    have hall2 : ((List.map (fun _ => Value.type "tuple") (v₁ :: vr)).toArray.all fun x => x == Value.type "tuple") = true := by
      simp only [List.all_toArray, List.all_map, List.all_eq_true]
      intro _ _
      exact beq_self_eq_true _
    have h0 : (List.map (fun _ => Value.type "tuple") (v₁ :: vr)).toArray[0]? = some (Value.type "tuple") := by simp
    rw [h0]
    simp only [hall2, if_true]
    exact wpAny_pure (wpAny_pure h)
theorem each_tupsO {h : Heap} : ∀ {vs : List Value} {ds : List PyData}, EachIs (fun v d => ∃ as, Reads h v d as) vs ds → (∀ d ∈ ds, ∃ xs, d = .tuple xs) → ∃ fs, TupsO h vs fs ∧ (.tuple [] ∈ ds → none ∈ fs)
  | _, _, .nil, _ => ⟨[], trivial, fun h => nomatch h⟩
  | _, _, .cons (b := d) ⟨as, r⟩ t, ht => by
    obtain ⟨fs, h1, h2⟩ := each_tupsO t fun d hd => ht d (List.mem_cons_of_mem _ hd)
    obtain ⟨xs, rfl⟩ := ht d List.mem_cons_self
    cases r with
    | @tuple a o vs n _ _ ho hc hd hr =>
      refine ⟨vs[0]? :: fs, ⟨⟨a, o, vs, n, rfl, ho, hc, hd, rfl⟩, h1⟩, fun hm => ?_⟩
      rcases List.mem_cons.mp hm with e | hm
      · cases e
        have hz : vs.toList = [] := by
          cases q : vs.toList with
          | nil => rfl
          | cons x y => rw [q] at hr; cases hr
        have : vs[0]? = none := by rw [← Array.getElem?_toList, hz]; rfl
        rw [this]
        exact List.mem_cons_self
      · exact List.mem_cons_of_mem _ (h2 hm)
end
section
open PySem.W
variable {prog : Program} {w : World} {A : Around} {s : Shared}
theorem sortsAt_tups {vs : List Value} {ds : List PyData} (e : EachIs (fun v d => ∃ as, Reads s.heap v d as) vs ds) (hal : AllAlike ds) (ht : ∀ d ∈ ds, ∃ xs, d = .tuple xs) (hu : ∀ d, d ∈ ds → A.units + d.depth < cLine) : SortsAt prog w A s (dataKind s.heap ds) vs := by
  by_cases hem : PyData.tuple [] ∈ ds
  · have room : ∀ {d d' : PyData}, d ∈ ds → A.units + min d.depth d'.depth < cLine := fun {d d'} hd => Nat.lt_of_le_of_lt (Nat.add_le_add_left (Nat.min_le_left _ _) _) (hu d hd)
    have key : ∀ v, v ∈ vs → ∃ a, (dataKind s.heap ds).keyOf v = some a := fun v hv => by
      obtain ⟨d, hd, as, r⟩ := e.left v hv
      exact ⟨_, dataKind_some hal hd r⟩
    obtain ⟨fs, h1, h2⟩ := each_tupsO e ht
    have lt : ∀ f : Bool, H.LtAt prog w A s (dataKind s.heap ds) (if f = true then oneType' else general') := by
      intro f E x y a b Q ha hb hq
      obtain ⟨d, as, hd, ra, rfl⟩ := dataKind_inv ha
      obtain ⟨d', as', hd', rb, rfl⟩ := dataKind_inv hb
      obtain ⟨xs, rfl⟩ := ht d hd
      obtain ⟨ys, rfl⟩ := ht d' hd'
      cases f with
      | true =>
        simp only [if_true]
        rw [keyLt'_oneType]
        exact oneLt_tup ra rb (hal _ hd _ hd') (room hd) hq
      | false =>
        simp only [Bool.false_eq_true, if_false]
        show wpAny (model prog w) A (oneLt' false x y) Q E s
        exact oneLt_tup ra rb (hal _ hd _ hd') (room hd) hq
    refine ⟨key, if (fs.toArray[0]?.bind id).isSome = true then general' else oneType', ?_, fun _ E Q hq => kindO h1 (h2 hem) hq⟩
    by_cases hf : (fs.toArray[0]?.bind id).isSome = true
    · rw [if_pos hf]
      exact lt false
    · rw [if_neg hf]
      exact lt true
  · refine SortsAt.data e hal (.inl fun d hd => ?_) hu
    obtain ⟨xs, rfl⟩ := ht d hd
    cases xs with
    | nil => exact absurd hd hem
    | cons x r => exact ⟨x, r, rfl⟩
end
section
open PySem.W
variable {prog : Program} {w : World} {A : Around} {E : Value → Shared → Prop} {s : Shared} {β : Type} {vs : List Value} {bs : List β} {enc : β → PyData} {R : Value → β → Prop}
/-- sorted(xs) of tuples -/
theorem sorted_tups {l : Addr} {Q : Value → Shared → Prop} (hl : s.heap.IsList l vs.toArray) (e : EachIs R vs bs) (er : EachIs (fun v b => ∃ as, Reads s.heap v (enc b) as) vs bs) (hal : AllAlike (bs.map enc)) (ht : ∀ d ∈ bs.map enc, ∃ xs, d = .tuple xs) (hL : bs.length ≤ sizeLine)
    (hu : ∀ b, b ∈ bs → A.units + 2 + (enc b).depth < cLine) (h : ∀ out, out.length = bs.length → EachIs R out (bs.mergeSort (dataLe false enc)) → Q (.ref (s.heap.objs.size + 1)) { s with heap := sortedAll s.heap vs (List.toArray out) }) :
    wpAny (model prog w) A (call (.builtin "sorted") [.ref l]) Q E s := by
  have er' : EachIs (fun v b => ∃ as, Reads (sortingHeap (copyHeap s.heap vs) (s.heap.objs.size + 1) vs) v (enc b) as) vs bs := er.mono fun _ _ ⟨as, r⟩ => ⟨as, PyProof.Rows.Reads.keeps (fun _ _ => sorting_copy_old) r⟩
  exact sorted_vals hl (sortsAt_tups (s := { s with heap := sortingHeap (copyHeap s.heap vs) (s.heap.objs.size + 1) vs }) (each_map (R := fun v d => ∃ as, Reads (sortingHeap (copyHeap s.heap vs) (s.heap.objs.size + 1) vs) v d as) enc er') hal ht (bound_map hu)) (by rw [e.length]; exact hL)
    (h _ (by rw [sortVals_length false rfl]; exact e.length) (sortVals_data false e er' hal))
end
def AllTup (ds : List PyData) : Prop := ∀ d ∈ ds, ∃ xs, d = .tuple xs
open L2
section
variable {X : Cx}
open PySem.W in
def rSortedTE : List V → Hp → VK → Prop := fun vs H Q => ∃ (d : Addr) (kvs : List (List Key × V)), vs = [V.ref d] ∧ Rd H d (.dT kvs) ∧ AllAlike (kvs.map fun p => keyPd p.1) ∧ AllTup (kvs.map fun p => keyPd p.1) ∧ (∀ e ∈ kvs.map (fun p => keyPd p.1), e.depth ≤ 60) ∧
  ∀ p bs, H p = none → KeysAt H kvs bs → kvs.length ≤ sizeLine → Q (.ref p) (upd H p (.lst ((((bs.map V.ref).zip (kvs.map fun p => keyPd p.1)).mergeSort (dataLe false Prod.snd)).map (·.1))))
open PySem.W in
theorem cr_sortedTE (hcalm : X.calm = true) (hu : X.A.units + 64 < cLine) : CallR X (.builtin "sorted") rSortedTE := by
  intro pins s σ H vs us Q I r h
  obtain ⟨d, kvs, rfl, hd, hal, hk, hdep, q⟩ := h
  obtain ⟨u, rfl, rx⟩ := r.one
  cases rx
  obtain ⟨z, hs, ks, pr, o, es, ep, ho, hx, hdt, he, hn⟩ := (show ObjOk X.prog X.w H s.heap d (.dT kvs) from hd.ok I.hok)
  have l1 : es.size = ks.length := size_of_entries he
  have l2 : kvs.length = ks.length := Paired.length pr
  refine Calls.call_function_entry PyProof.Rows.kind_sorted PyProof.Rows.plain_sorted PyProof.Rows.entry_sorted (PyProof.Rows.args_sorted1 _) ?_
  unfold Builtin.«sorted»
  refine wpAny_bind (m := checkCount "sorted" 1 1 _) (wpAny_pure ?_)
  refine wpAny_bind (PySem.W.kdu_collect (A := X.A.in1) (kdl_raw hs hx hdt) (I.ok.hd hcalm) ho (by omega) fun h' tk acc hkp it => ?_)
  have hacl : acc.toList.length = ks.length := by rw [Array.length_toList, it.1]; exact l1
  have ea : acc.toList = (ks.map fun x => x.2.1).map Value.ref := by
    rw [List.map_map]
    apply List.ext_getElem?
    intro j
    rw [List.getElem?_map]
    cases hj : acc.toList[j]? with
    | none =>
      have h1 := List.getElem?_eq_none_iff.mp hj
      rw [List.getElem?_eq_none (by omega)]
      all_goals rfl
    | some v =>
      obtain ⟨en, hen, hv⟩ := it.2 j v (by rw [← Array.getElem?_toList]; exact hj)
      have qe := entry_at he j
      rw [hen] at qe
      cases hb : ks[j]? with
      | none =>
        rw [hb] at qe
        exact nomatch (show some en = none from qe)
      | some b =>
        rw [hb] at qe
        have e2 : en = entryOfKey (tupleKind (mixKind X.prog X.w)) b := Option.some.inj qe
        rw [hv, e2]
        all_goals rfl
  have rv : Vals ((ks.map fun x => x.2.1).map V.ref) acc.toList := by rw [ea]; exact vals_refs _
  have hka : KeysAt H kvs (ks.map fun x => x.2.1) := keysAt_of I.hok pr
  have hdp : DpAll X.K H ((ks.map fun x => x.2.1).map V.ref) (kvs.map fun p => keyPd p.1) := dpAll_keys hka
  obtain ⟨e1, e2⟩ := each_zip I rv hdp
  generalize hbs : ((ks.map fun x => x.2.1).map V.ref).zip (kvs.map fun p => keyPd p.1) = bs at e1 e2
  have hm : bs.map Prod.snd = kvs.map fun p => keyPd p.1 := by
    rw [← hbs]
    exact zip_snd (by simp [l2])
  have hbl : bs.length = ks.length := by rw [← hbs, List.length_zip]; simp [l2]
  have I1 : L2.Inv X pins σ H { s with heap := h', toks := tk } := I.kept hkp
  refine wpAny_bind (wpAny_newList ?_ (by rw [hacl]; omega))
  have hoL : (h'.push (seqObj "list" acc.toList.toArray 0)).get? h'.objs.size = some (seqObj "list" acc.toList.toArray 0) := Heap.get?_push_size _ rfl
  show wpAny _ _ _ _ _ { s with heap := h'.push (seqObj "list" acc.toList.toArray 0), toks := tk }
  have old : ∀ b o, s.heap.get? b = some o → (sortingHeap (h'.push (seqObj "list" acc.toList.toArray 0)) h'.objs.size acc.toList).get? b = some o := fun b o e =>
    sortingHeap_old (Nat.ne_of_lt (Heap.lt_size (hkp b o e))) (Heap.get?_push_of_some _ (hkp b o e))
  have er' : EachIs (fun v b => ∃ as, Reads (sortingHeap (h'.push (seqObj "list" acc.toList.toArray 0)) h'.objs.size acc.toList) v (Prod.snd b) as) acc.toList bs := e2.mono fun _ _ ⟨as, r⟩ => ⟨as, PyProof.Rows.Reads.keeps old r⟩
  have hub : ∀ b, b ∈ bs → X.A.in1.in1.units + (Prod.snd b).depth < cLine := fun b hb => by
    have : b.2 ∈ kvs.map fun p => keyPd p.1 := by
      rw [← hm]
      exact List.mem_map.mpr ⟨b, hb, rfl⟩
    have := hdep _ this
    show X.A.units + 1 + 1 + _ < cLine
    omega
  refine wpAny_bind (wpAny_holding (wpAny_call_entry PyProof.Rows.slot_list_sort ⟨_, hoL, rfl⟩ PyProof.Rows.entry_list_sort
    (list_sort_vals (κ := dataKind (sortingHeap (h'.push (seqObj "list" acc.toList.toArray 0)) h'.objs.size acc.toList) (bs.map Prod.snd)) hoL (sortsAt_tups (s := { s with heap := sortingHeap (h'.push (seqObj "list" acc.toList.toArray 0)) h'.objs.size acc.toList, toks := tk }) (each_map (R := fun v d => ∃ as, Reads (sortingHeap (h'.push (seqObj "list" acc.toList.toArray 0)) h'.objs.size acc.toList) v d as) Prod.snd er') (by rw [hm]; exact hal) (by rw [hm]; exact hk) (bound_map hub)) (by rw [hacl]; omega) ⟨_, rfl, ?_⟩)
    (PyProof.Rows.args_list_sort _)))
  have hR := sortVals_data (enc := Prod.snd) false e1 er' (by rw [hm]; exact hal)
  obtain ⟨e', he'⟩ := PyProof.Rows.sortedHeap_at (vs := acc.toList) (out := (sortVals (dataKind (sortingHeap (h'.push (seqObj "list" acc.toList.toArray 0)) h'.objs.size acc.toList) (bs.map Prod.snd)) false acc.toList acc.toList).toArray) hoL
  have hl2 : ((bs.mergeSort (dataLe false Prod.snd)).map (·.1)).length ≤ sizeLine := by
    rw [List.length_map, List.length_mergeSort, hbl]
    omega
  have q' := q h'.objs.size (ks.map fun x => x.2.1) (I1.hok.fresh (Nat.le_refl _)) hka z
  rw [hbs] at q'
  refine wpAny_pure ⟨_, rfl, .ref h'.objs.size, upd H h'.objs.size (.lst ((bs.mergeSort (dataLe false Prod.snd)).map (·.1))), I1.laid (t' := tk) (fun b u e => ?_) (Nat.le_refl _) ⟨hl2, _, e', vals_each hR, he'⟩, rfl, q'⟩
  have hb : b < h'.objs.size := Heap.lt_size e
  rw [PyProof.Rows.sortedHeap_old (Nat.ne_of_lt hb) (by rw [size_push']; exact Nat.lt_succ_of_lt hb)]
  exact Heap.get?_push_of_some _ e
/-- sorted(d) -/
def tSortedTE3 (te : TE3) : TN3 := fun env S Q => te env S fun x S1 => match dic3 S1 x with
  | some (_, kvs) => (PySem.W.AllAlike (kvs.map fun p => keyPd p.1) ∧ AllTup (kvs.map fun p => keyPd p.1) ∧ ∀ d ∈ kvs.map (fun p => keyPd p.1), d.depth ≤ 60) ∧ Q (sortD (kvs.map fun p => keyPd p.1)) S1
  | none => False
theorem qn_sortedTE {e : Expr} {te : TE3} {p pos : Pos} (hcalm : X.calm = true) (hu : X.A.units + 64 < cLine) (hg : Gl X "sorted") (hm : X.mg "sorted" = none) (ha : QE X e te) (hs : starEach [e] X.env = (false, eval e X.env) :: starEach [] X.env := by rfl) (hpl : (backTo pos (starEach [] X.env)).any (·.1) = false := by rfl) :
    QN X (.Call (.Name "sorted" p) [e] [] pos) (tSortedTE3 te) := L2.PE.imp (pe_callB (cr_sortedTE hcalm hu) hg hm (by decide +kernel) (pa_cons ha pa_nil hs) (by decide) (by decide) hs hpl) fun σ H R ⟨w, env, S, Q, r0, en, t, q⟩ => by
  refine ⟨w, env, S, _, r0, en, t, fun w1 v d H1 S1 e1 r1 p1 t1 => ?_⟩
  split at t1
  · rename_i n kvs h1
    obtain ⟨a, kxs, rfl, rfl, ha, hs', hH, hp⟩ := dic3_low r1 p1 h1
    obtain ⟨⟨c1, c2, c3⟩, t1⟩ := t1
    have ek := pt_keys hp
    refine ⟨a, kxs, rfl, .inl hH, by rw [ek]; exact c1, by rw [ek]; exact c2, by rw [ek]; exact c3, fun p bs hn hb hz => ?_⟩
    obtain ⟨h', e2, r2, dd⟩ := Rel3.tups r1 hb
    rw [ek] at dd ⊢
    have hlen := DpAll.length dd
    have hsnd : (((bs.map V.ref).zip (kvs.map fun p => keyPd p.1)).mergeSort (PySem.W.dataLe false Prod.snd)).map (·.2) = sortD (kvs.map fun p => keyPd p.1) := by
      have e := List.map_mergeSort (f := fun x : V × PyData => x.2) (r := PySem.W.dataLe false Prod.snd) (s := PySem.W.dataLe false id) (l := (bs.map V.ref).zip (kvs.map fun p => keyPd p.1)) (fun _ _ _ _ => rfl)
      unfold sortD
      rw [e, zip_snd hlen]
    refine q ⟨w1.al, h', w1.pn⟩ p _ (sortD (kvs.map fun p => keyPd p.1)) H1 S1 (e1.trans e2) r2 hn ?_ ?_ t1
    · rw [← hsnd]
      exact dp_unzip fun p hp => zip_dp dd p (List.mem_mergeSort.mp hp)
    · unfold sortD
      rw [List.length_mergeSort, ← ek, List.length_map]
      exact hz
  · exact t1.elim
open PySem.W in
def rSortedDE (K : PySem.W.Frag) : List V → Hp → VK → Prop := fun vs H Q => ∃ (a : Addr) (xs : List V) (ds : List PyData), vs = [V.ref a] ∧ SqL K H a xs ∧ DpAll K H xs ds ∧ AllAlike ds ∧ AllTup ds ∧ (∀ d ∈ ds, d.depth ≤ 60) ∧
  ∀ p, H p = none → Q (.ref p) (upd H p (.lst (((xs.zip ds).mergeSort (dataLe false Prod.snd)).map (·.1))))
open PySem.W in
theorem cr_sortedDE {X : Cx} (hu : X.A.units + 64 < cLine) : CallR X (.builtin "sorted") (rSortedDE X.K) := by
  intro pins s σ H vs us Q I r h
  obtain ⟨a, xs, ds, rfl, hs, hd, hal, hk, hdep, q⟩ := h
  obtain ⟨its, rv, hl, hz⟩ := I.list hs
  rw [Vals.ref1 r]
  obtain ⟨e1, e2⟩ := each_zip I rv hd
  have hlen := DpAll.length hd
  have hsnd := zip_snd hlen
  have hm : (xs.zip ds).map Prod.snd = ds := hsnd
  have hbl : (xs.zip ds).length = xs.length := by rw [List.length_zip]; omega
  refine sorted_tups (bs := xs.zip ds) (enc := Prod.snd) (R := fun v (b : V × PyData) => RelV b.1 v) hl.isList e1 e2 (by rw [hm]; exact hal) (by rw [hm]; exact hk) (by rw [hbl]; exact hz) (fun b hb => ?_) fun out ho hR => ?_
  · have : b.2 ∈ ds := by
      rw [← hm]
      exact List.mem_map.mpr ⟨b, hb, rfl⟩
    have := hdep _ this
    omega
  · obtain ⟨ep, he'⟩ := PyProof.Rows.sortedAll_at s.heap its out.toArray
    have hl2 : (((xs.zip ds).mergeSort (dataLe false Prod.snd)).map (·.1)).length ≤ sizeLine := by
      rw [List.length_map, List.length_mergeSort, hbl]
      exact hz
    exact ⟨.ref _, upd H (s.heap.objs.size + 1) (.lst (((xs.zip ds).mergeSort (dataLe false Prod.snd)).map (·.1))), I.laid (t' := s.toks) (fun _ _ => PyProof.Rows.sortedAll_old) (Nat.le_succ _) ⟨hl2, out, ep, vals_each hR, he'⟩, rfl, q _ (I.hok.fresh (Nat.le_succ _))⟩
def tSortedDE3 (te : TE3) : TN3 := fun env S Q => te env S fun x S1 => match lst3 S1 x with
  | some ds => (PySem.W.AllAlike ds ∧ AllTup ds ∧ ∀ d ∈ ds, d.depth ≤ 60) ∧ Q (sortD ds) S1
  | none => False
theorem qn_sortedDE {X : Cx} {e : Expr} {te : TE3} {p pos : Pos} (hu : X.A.units + 64 < cLine) (hg : Gl X "sorted") (hm : X.mg "sorted" = none) (ha : QE X e te) (hs : starEach [e] X.env = (false, eval e X.env) :: starEach [] X.env := by rfl) (hpl : (backTo pos (starEach [] X.env)).any (·.1) = false := by rfl) :
    QN X (.Call (.Name "sorted" p) [e] [] pos) (tSortedDE3 te) := L2.PE.imp (pe_callB (cr_sortedDE hu) hg hm (by decide +kernel) (pa_cons ha pa_nil hs) (by decide) (by decide) hs hpl) fun σ H R ⟨w, env, S, Q, r0, en, t, q⟩ => by
  refine ⟨w, env, S, _, r0, en, t, fun w1 v d H1 S1 e1 r1 p1 t1 => ?_⟩
  split at t1
  · rename_i ds h1
    obtain ⟨a, xs, rfl, hq, hd, hz⟩ := lst3_low r1 p1 h1
    have hlen := DpAll.length hd
    obtain ⟨⟨c1, c2, c3⟩, t1⟩ := t1
    refine ⟨a, xs, ds, rfl, hq, dpAll_mono r1.sub _ _ hd, c1, c2, c3, fun p hn => ?_⟩
    have hsnd : ((xs.zip ds).mergeSort (PySem.W.dataLe false Prod.snd)).map (·.2) = sortD ds := by
      have e := List.map_mergeSort (f := fun x : V × PyData => x.2) (r := PySem.W.dataLe false Prod.snd) (s := PySem.W.dataLe false id) (l := xs.zip ds) (fun _ _ _ _ => rfl)
      unfold sortD
      rw [e, zip_snd hlen]
    refine q w1 p _ (sortD ds) H1 S1 e1 r1 hn ?_ ?_ t1
    · rw [← hsnd]
      exact dp_unzip fun p hp => zip_dp hd p (List.mem_mergeSort.mp hp)
    · unfold sortD
      rw [List.length_mergeSort]
      exact hz
  · exact t1.elim
end
/-- len of an own dict whose keys are tuples -/
def rLenT3 : C3 := fun ds S Q => match ds with
  | [d] => (match dic3 S d with
    | some (_, kvs) => Q (.p (.int kvs.length)) S
    | none => False)
  | _ => False
theorem cq_lenT {X : Cx} : CQ X (.builtin "len") rLenT3 := CallR.imp call_len_dT fun xs H R ⟨w, S, ds, Q, r0, p1, t, q⟩ => by
  unfold rLenT3 at t
  split at t
  · rename_i d
    split at t
    · rename_i n kvs ho'
      obtain ⟨v, rfl, p⟩ := rds1 p1
      obtain ⟨a, kxs, rfl, rfl, ha, hs', hH, hp⟩ := dic3_low r0 p ho'
      refine ⟨a, kxs, rfl, hH, ?_⟩
      rw [Paired.length hp]
      exact q.int r0 t
    · exact t.elim
  · exact t.elim
end L3

/-! OB: any(t), t a tuple of ints. -/
namespace L3
open PySem PySem.Spec PyProof.Rows L2
theorem plainAll_ints : ∀ ns : List Int, PyData.plainAll (ns.map PyData.int) = true
  | [] => by rw [List.map_nil]; unfold PyData.plainAll; rfl
  | n :: ns => by
    rw [List.map_cons]
    unfold PyData.plainAll
    rw [plainAll_ints ns]
    rfl
theorem truthy_ints (ns : List Int) : (ns.map PyData.int).any PyData.truthy = ns.any fun n => decide (n ≠ 0) := by
  rw [List.any_map]
  congr 1
  funext n
  show PyData.truthy (.int n) = _
  by_cases h : n = 0
  · subst h
    rfl
  · have h2 : (n == 0) = false := by simp [h]
    show (!(n == 0)) = _
    rw [h2, decide_eq_true h]
    rfl
theorem cr_anyT {X : Cx} (hc : X.calm = true) : CallR X (.builtin "any") (fun xs H Q => ∃ (a : Addr) (ns : List Int), xs = [V.ref a] ∧ SqT X.K H a (ns.map V.int) ∧ Q (.bl (ns.any fun n => decide (n ≠ 0))) H) := by
  intro pins s σ H vs us Q I r h
  obtain ⟨a, ns, rfl, hs, q⟩ := h
  obtain ⟨its, rv, hl, _⟩ := I.tuple hs
  rw [Vals.ref1 r]
  obtain ⟨as, hr⟩ := dpAll_reads I rv (dpAll_ints ns)
  refine PySem.W.any_tuple_data (I.ok.hd hc) hl hr (plainAll_ints ns) (fun x hx => ?_) fun h' tk hk => ?_
  · obtain ⟨i, _, rfl⟩ := List.mem_map.mp hx
    trivial
  · rw [truthy_ints]
    exact ⟨.bl _, H, I.kept hk, rfl, q⟩
def rAnyT3 : C3 := fun ds S Q => match ds with
  | [.p (.tuple ds)] => (match allP int? ds with
    | some ns => Q (.p (.bool (ns.any fun n => decide (n ≠ 0)))) S
    | none => False)
  | _ => False
theorem cq_anyT {X : Cx} (hc : X.calm = true) : CQ X (.builtin "any") rAnyT3 := callq (cr_anyT hc) fun w S ds xs H Q R r0 p1 t q => by
  unfold rAnyT3 at t
  split at t
  · obtain ⟨v, rfl, p⟩ := rds1 p1
    split at t
    · rename_i ns h1
      have p' := dp_mono r0.sub _ _ p
      rw [allP_int h1] at p'
      obtain ⟨a, ys, rfl, hq, ha⟩ := dp_tup_ref p'
      rw [dp_ints ha] at hq
      exact ⟨a, ns, rfl, hq, q.bl r0 t⟩
    · exact t.elim
  · exact t.elim
end L3

namespace L3
open PySem PySem.Spec PyProof.Rows L2
/-! ### errors: a caught error is a tracked object -/
/-- an error's object, by its class and its dict -/
def ErrO (cls : Value) (d : Option Addr) (a : Addr) : HO := .ext fun h => ∃ (oe : Obj) (vs : Array Value), h.get? a = some oe ∧ L2N.Zn cls d oe ∧ oe.data = .fields vs
theorem errO_ok {P : Program} {w : World} {H : Hp} {h : Heap} {a : Addr} {cls : Value} {d : Option Addr} {oe : Obj} {vs : Array Value} (e : h.get? a = some oe) (z : L2N.Zn cls d oe) (dd : oe.data = .fields vs) : ObjOk P w H h a (ErrO cls d a) :=
  ⟨⟨oe, vs, e, z, dd⟩, ⟨oe, e⟩, fun _ _ x k => let ⟨o, v, q, r⟩ := x; ⟨o, v, k o q, r⟩⟩
section
variable {X : Cx} {pins : List (Addr × Obj)} {σ : L2.St} {H : Hp} {s : Shared}
/-- an error that the heap holds is tracked from now on -/
theorem inv_track (I : L2.Inv X pins σ H s) {a : Addr} {cls : Value} {d : Option Addr} {oe : Obj} {vs : Array Value} (ha : s.heap.get? a = some oe) (hd : oe.data = .fields vs) (hz : L2N.Zn cls d oe) (na : H a = none) (n0 : X.s_0.heap.get? a = none) (nL : a ≠ X.env.locals)
    (np : ∀ p ∈ X.pn ++ pins, p.1 ≠ a) : L2.Inv X pins σ (upd H a (ErrO cls d a)) s := by
  have old : ∀ {b : Addr} {u : HO}, H b = some u → upd H a (ErrO cls d a) b = some u := fun {b u} q => by
    have nb : b ≠ a := fun z => by rw [z, na] at q; cases q
    rw [upd_ne nb]
    exact q
  have non : ∀ {b : Addr}, b ≠ a → H b = none → upd H a (ErrO cls d a) b = none := fun {b} nb q => by
    rw [upd_ne nb]
    exact q
  have cells : ∀ x c, X.env.cells.lookup x = some c → c ≠ a := fun x c q z => by
    obtain ⟨v, o, h1, h2⟩ := I.cell x c q
    rw [z, ha] at h1
    cases h1
    rw [hd] at h2
    cases h2
  exact {
    ok := I.ok
    os := I.os
    bare := I.bare
    base := {
      keep := I.base.keep
      slot := I.base.slot
      free := fun b o q n x => non (fun z => by rw [z, n0] at q; cases q) (I.base.free b o q n x)
      there := I.base.there
      tups := fun b xs q => old (I.base.tups b xs q)
      frzs := fun b o u q => old (I.base.frzs b o u q)
      tbls := fun b ps q => let ⟨m, z⟩ := I.base.tbls b ps q; ⟨m, old z⟩ }
    loc := I.loc
    cell := I.cell
    free := non (Ne.symm nL) I.free
    freeC := fun x c q => non (cells x c q) (I.freeC x c q)
    pin := fun p hp => let ⟨h1, h2, h3⟩ := I.pin p hp; ⟨h1, non (np p hp) h2, h3⟩
    hok := HOk.laidN I.hok (fun _ _ q => q) na (errO_ok ha hz hd)
    len := I.len }
theorem inv_in (I : L2.Inv X pins σ H s) (a : Addr) : L2.Inv (X.suite a (X.pn ++ pins)) [] σ H s :=
  { ok := I.ok.suite a _, os := I.os, bare := I.bare, base := I.base, loc := I.loc, cell := I.cell, free := I.free, freeC := I.freeC, pin := fun p hp => I.pin p (by simpa using hp), hok := I.hok, len := I.len }
theorem inv_out {a : Addr} (I : L2.Inv (X.suite a (X.pn ++ pins)) [] σ H s) (ok : X.Ok) : L2.Inv X pins σ H s :=
  { ok := ok, os := I.os, bare := I.bare, base := I.base, loc := I.loc, cell := I.cell, free := I.free, freeC := I.freeC, pin := fun p hp => I.pin p (by simpa using hp), hok := I.hok, len := I.len }
end
/-- around a body nothing is let out -/
theorem takesN0 {X : Cx} : L2N.Takes X (fun _ _ _ _ => False) := fun _ _ x => by
  obtain ⟨_, _, _, _, _, _, _, _, _, _, _, _, _, _, _, _, z⟩ := x
  exact z.elim
theorem okXN {P : Program} {w : World} {K : PySem.W.Frag} {mg : Str → Option Value} {base : Heap} {x qual : Str} {st : Stmt} {f : Addr} {fd : FuncData} {N ps : List Str} {k : Nat} {sp : Sp} (F : Fun K x qual st f fd) (S : FnScope N ps (defScope st)) (len : ∀ vs H Q E, sp vs H Q E → vs.length = ps.length)
    (hbody : ∀ (cdv : Value) (A : Around) (outer : List Env) (s : Shared) (H : Hp) (vs : List V) (Q : VK) (E : XK), Room k (A.deeper (envOfC qual (defScope st) s.heap.objs.size f cdv)) → sp vs H Q E →
      ∃ t, PSs (cxOf (L2N.CX P w) P w K mg base N qual (defScope st) f cdv A outer s H E) (defBody st) t ∧ t { nx := fun _ H' => Q .non H', rt := Q } (L2.start N vs) H) : FnOk P w K mg base (L2N.CX P w) (k + 1) f fd ps sp := by
  obtain ⟨oc, od, kV, doc, pm, an, cdv, ct, osl, rfl, lk, hcd⟩ := F.ex
  exact fn_of lk hcd S len fun A outer s H vs Q E hr hsp => hbody cdv A outer s H vs Q E hr hsp
/-- what the clause «except x as n» wishes: slot i is n's, the error is tracked -/
def wErr (K : PySem.W.Frag) (c : Value) (i : Nat) (ts : Addr → Value → Option Addr → TS) (Wo : WX) (D : Ends) : WX := fun cls d σ H =>
  ∃ b, PySem.W.exmOne K cls c = some b ∧ (b = true → ∀ a, H a = none → ts a cls d { nx := fun σ' H' => D.nx (σ'.set i none) H', rt := D.rt, bk := fun σ' H' => D.bk (σ'.set i none) H', ct := fun σ' H' => D.ct (σ'.set i none) H' } (σ.set i (some (.ref a))) (upd H a (ErrO cls d a))) ∧
    (b = false → Wo cls d σ H)
section
variable {X : Cx} {x n : Str} {c : Value} {i : Nat} {body suite : List Stmt} {b₀ : Stmt} {np pos pos' : Pos} {tb : WX → TS} {ts : Addr → Value → Option Addr → TS} {Wo : WX}
/-- try: body, except x as n: suite; the error is tracked in the suite and behind it -/
theorem ps_tryT (hs : X.stack = X.env :: X.outer) (hf : X.env.frame = some X.env.locals) (hx : X.ex = []) (hN : X.N.Nodup) (hi : X.N[i]? = some n) (hln : X.env.kindOf n = some .local) (hc : Names X x c) (tk : L2N.Takes X Wo)
    (hb : ∀ (W : WX) (pn : List (Addr × Obj)) (xe : Value → Shared → Prop), L2N.Takes (X.tr pn xe) W → PassesOwn (model X.prog X.w) X.A X.env xe → PSs (X.tr pn xe) body (tb W))
    (hsu : ∀ (a : Addr) (cls : Value) (d : Option Addr) (pn : List (Addr × Obj)), PSs (X.suite a pn) (b₀ :: suite) (ts a cls d)) :
    PS X (.Try body [.ExceptHandler (some (.Name x np)) (some n) (b₀ :: suite) pos'] [] [] pos) (fun D σ H => tb (wErr X.K c i ts Wo D) D σ H) := by
  constructor
  intro pins s σ H D I h
  have fr : X.A.frames = some (X.env :: X.outer) := by rw [I.ok.frames, hs]
  refine wpAny_Try_except (wpAny_mono ((hb (wErr X.K c i ts Wo D) (X.pn ++ pins) _ (fun u s' hu => ?_) PassesOwn.looking).run [] s σ H D (I.toTry _) h) (fun f s1 hq => ?_) fun _ _ z => z)
  · obtain ⟨a, B, sI, pins', σ', H', cls, d, rfl, J', nb, up, sky, na, os, ag, b, hb1, yes, no⟩ := hu
    have J : L2.Inv X pins σ' H' sI := J'.ofTry I.ok
    rw [show (X.tr (X.pn ++ pins) _).stack = X.env :: X.outer from hs] at sky
    show wpAny (model X.prog X.w) X.A (noteFrame (.ref a) X.env) _ _ _
    refine L2N.Sky.land L2N.Zn.steady fr hf sky fun h3 fl3 up3 => ?_
    have J3 : L2.Inv X pins σ' H' { s' with heap := h3 } := J.landed nb fl3.1 (up.trans up3) os ag
    obtain ⟨o3, v3, g3, z3, d3⟩ := fl3.there
    have nfr : a ∉ frs (X.env :: X.outer) := fun hm => by
      obtain ⟨_, o', e', hn⟩ := fl3.2.2.1.mem hm
      rw [g3] at e'
      cases e'
      exact hn _ d3
    have nI : sI.heap.get? a = none := by
      cases q : sI.heap.get? a with
      | none => rfl
      | some o =>
        have z := nb a o q (by show a ∉ frs X.stack; rw [hs]; exact nfr)
        rw [fl3.2.1] at z
        cases z
    have n0 : X.s_0.heap.get? a = none := by
      cases q : X.s_0.heap.get? a with
      | none => rfl
      | some o =>
        obtain ⟨o', z⟩ := J.base.there a o q (by rw [hx]; exact fun y => nomatch y)
        rw [nI] at z
        cases z
    have nL : a ≠ X.env.locals := fun z => nfr (List.mem_filterMap.mpr ⟨X.env, List.mem_cons_self, by rw [hf, z]⟩)
    have npn : ∀ p ∈ X.pn ++ pins, p.1 ≠ a := fun p hp z => by
      have y := (J.pin p hp).1
      rw [z, nI] at y
      cases y
    have LT : PySem.W.Looks (model X.prog X.w) h3 (typeOf (.ref a)) cls := fun A Q E s k q => wpAny_typeOf_ref (k _ _ g3) (by rw [z3.1]; exact q)
    have S3 := inv_in J3 a
    refine wpAny_handleBy_cons (codeAny_handlers_test ?_) (by intro q; cases q)
    have test : ∀ {Q : Value → Shared → Prop} {E : Value → Shared → Prop}, Q c { s' with heap := h3 } → wpAny (model X.prog X.w) (X.A.mark (some (.ref a))) (eval (.Name x np) X.env) Q E { s' with heap := h3 } := fun {Q E} q => by
      obtain ⟨hg, hdbg, hm⟩ := hc
      rcases hm with hm | ⟨hm, hv, hnn⟩
      · exact ld_glob (X := X.suite a (X.pn ++ pins)) S3 hg hm q hdbg
      · exact ld_blt (X := X.suite a (X.pn ++ pins)) S3 hg hm hv q hnn hdbg
    refine test ((PySem.W.exm_one (M := model X.prog X.w) J3.kIn LT hb1).here ?_)
    cases b with
    | true =>
      refine codeAny_handlers_suite_as (HandSPX.lands_againZ fl3 fun h4 fl4 up4 => ?_)
      have J4 : L2.Inv X pins σ' H' { s' with heap := h4 } := J.landed nb fl4.1 ((up.trans up3).trans up4) os ag
      obtain ⟨o4, v4, g4, z4, d4⟩ := fl4.there
      have T4 := inv_in (inv_track J4 g4 d4 z4 na n0 nL npn) a
      refine store_ok (X := X.suite a (X.pn ++ pins)) (v := .ref a) T4 hN hi (.inl hln) rfl (fun s5 T5 => ?_) (.inr hln)
      refine wpAny_mono ((hsu a cls d (X.pn ++ pins)).run [] s5 _ _ _ T5 (yes rfl a na)) (fun f s6 hq => ?_) (fun _ _ z => z.elim)
      have fin : ∀ {σ6 : L2.St} {H6 : Hp} {Q : Shared → Prop}, L2.Inv (X.suite a (X.pn ++ pins)) [] σ6 H6 s6 → (∀ s7, L2.Inv X pins (σ6.set i none) H6 s7 → Q s7) →
          wpAny (model X.prog X.w) X.A (do bindName X.env n .none; unbindBehindTheSuite X.env n pos') (fun _ s7 => Q s7) X.xe s6 := fun {σ6 H6 Q} T6 q => gone_ok (inv_out T6 I.ok) hN hi hln q
      cases f with
      | next =>
        obtain ⟨σ6, H6, T6, q6⟩ := hq
        exact fin T6 fun s7 J7 => ⟨_, _, J7, q6⟩
      | brk =>
        obtain ⟨σ6, H6, T6, q6⟩ := hq
        exact fin T6 fun s7 J7 => ⟨_, _, J7, q6⟩
      | cont =>
        obtain ⟨σ6, H6, T6, q6⟩ := hq
        exact fin T6 fun s7 J7 => ⟨_, _, J7, q6⟩
      | ret u =>
        obtain ⟨v6, σ6, H6, T6, r6, q6⟩ := hq
        exact fin T6 fun s7 J7 => ⟨_, _, _, J7, r6, q6⟩
    | false =>
      show wpAny _ X.A (handleBy (.ref a) X.env []) _ _ _
      refine wpAny_handleBy_nil ?_
      have whole := fl3
      obtain ⟨_, _, _, oe, vs, T, oT, ts', he, hz, hd, h1, hr⟩ := fl3
      unfold PySem.passOn
      refine wpAny_bind (wpAny_field he hd h1 ?_)
      rw [if_neg (show ¬ ((Value.ref T == Value.none) = true) from by simp)]
      have last : wpAny (model X.prog X.w) X.A (setFlight (.ref a) X.env.frame) (fun _ s4 => wpAny (model X.prog X.w) X.A (throw (.ref a) : Sem Flow) (SP X pins D) X.xe s4) X.xe { s' with heap := h3 } := by
        rw [hf]
        refine HandSPX.setFlight_upZ whole fun h4 hh4 up4 => wpAny_throw (tk _ _ ?_)
        exact ⟨a, B, sI, pins, σ', H', cls, d, rfl, J, nb, (up.trans up3).trans up4, .inr (.inr (by rw [hs]; exact hh4)), na, os, ag, no rfl⟩
      first
        | exact wpAny_bind (wpAny_pure (wpAny_bind last))
        | exact wpAny_bind last
  · cases f with
    | next =>
      obtain ⟨σ', H', J', q⟩ := hq
      exact wpAny_execs_nil ⟨σ', H', J'.ofTry I.ok, q⟩
    | brk =>
      obtain ⟨σ', H', J', q⟩ := hq
      exact ⟨σ', H', J'.ofTry I.ok, q⟩
    | cont =>
      obtain ⟨σ', H', J', q⟩ := hq
      exact ⟨σ', H', J'.ofTry I.ok, q⟩
    | ret u =>
      obtain ⟨v, σ', H', J', r, q⟩ := hq
      exact ⟨v, σ', H', J'.ofTry I.ok, r, q⟩
end

/-! ### statements that may raise -/
abbrev NX3 := Str → E3 → S3 → Prop
abbrev TSX3 := N3 → NX3 → E3 → S3 → Prop
abbrev TEX3 := E3 → S3 → K3 → NX3 → Prop
abbrev Sp3X := List D → S3 → K3 → (Str → S3 → Prop) → Prop
/-- what is wanted behind an error of the class that is called c -/
def EndX (K : PySem.W.Frag) (w : W3) (X3 : NX3) (W : WX) : Prop := ∀ (w' : W3) (c : Str) (C : Addr) (σ' : L2.St) (H' : Hp) (env' : E3) (S' : S3), Ex3 w w' → Rel3 K w' H' S' → EnvR K w' σ' env' → PySem.W.nsIn K mainGlobals c = some (some (.ref C)) → X3 c env' S' → W (.ref C) none σ' H'
def EndXc (K : PySem.W.Frag) (w : W3) (X3 : Str → S3 → Prop) (E : XK) : Prop := ∀ (w' : W3) (c : Str) (C : Addr) (H' : Hp) (S' : S3), Ex3 w w' → Rel3 K w' H' S' → PySem.W.nsIn K mainGlobals c = some (some (.ref C)) → X3 c S' → E (.ref C) none H'
theorem EndX.mono {K : PySem.W.Frag} {w w' : W3} {X3 : NX3} {W : WX} (h : EndX K w X3 W) (e : Ex3 w w') : EndX K w' X3 W := fun w2 c C σ' H' env' S' x => h w2 c C σ' H' env' S' (e.trans x)
def lowSX (K : PySem.W.Frag) (W : WX) (t : TSX3) : TS := fun D2 σ H => ∃ w env S D3 X3, Rel3 K w H S ∧ EnvR K w σ env ∧ t D3 X3 env S ∧ EndS K w D3 D2 ∧ EndX K w X3 W
def lowEX (K : PySem.W.Frag) (W : WX) (t : TEX3) : TE := fun σ H R => ∃ w env S Q X3, Rel3 K w H S ∧ EnvR K w σ env ∧ t env S Q X3 ∧ EndE K w Q R ∧ EndX K w X3 W
def lowCX (K : PySem.W.Frag) (sp : Sp3X) : List V → Hp → VK → XK → Prop := fun vs H Q E => ∃ w S ds Q3 X3, Rel3 K w H S ∧ RepDs K w vs ds ∧ sp ds S Q3 X3 ∧ EndE K w Q3 Q ∧ EndXc K w X3 E
abbrev QSX (X : Cx) (W : WX) (st : Stmt) (t : TSX3) : Prop := PS X st (lowSX X.K W t)
abbrev QSsX (X : Cx) (W : WX) (sts : List Stmt) (t : TSX3) : Prop := PSs X sts (lowSX X.K W t)
abbrev QEX (X : Cx) (W : WX) (e : Expr) (t : TEX3) : Prop := PE X e (lowEX X.K W t)
/-- an error class of the program, called c -/
structure ErrC (K : PySem.W.Frag) (mg : Str → Option Value) (c : Str) : Prop where
  ex : ∃ C : Addr, mg c = some (.ref C) ∧ PySem.W.nsIn K mainGlobals c = some (some (.ref C)) ∧ PySem.W.keepIn K (.ref C) = true ∧ PySem.W.excIn K C [.type "ValueError", .type "Exception", .type "BaseException", .type "object"] "ValueError.__new__" = true ∧
    PySem.W.subIn K (.ref C) (.type "BaseException") = some true ∧ PySem.W.typeIn K (.ref C) = some (.type "type")
/-- a def that keeps a promise and may raise -/
structure Ok3X (P : Program) (w : World) (K : PySem.W.Frag) (mg : Str → Option Value) (base : Heap) (k : Nat) (x : Str) (sp : Sp3X) : Prop where
  ex : ∃ f fd ps, mg x = some (.ref f) ∧ PySem.W.keepIn K (.ref f) = true ∧ Binds K fd ps [] ∧ FnOk P w K mg base (L2N.CX P w) k f fd ps (lowCX K sp)
def tLift (t : TS3) : TSX3 := fun D _ env S => t D env S
def tSeqX (t u : TSX3) : TSX3 := fun D X env S => t { D with nx := fun e s => u D X e s } X env S
def tIfX (c : TT3) (t u : TSX3) : TSX3 := fun D X env S => c env S fun b S1 => if b = true then t D X env S1 else u D X env S1
def tRaiseX (c : Str) : TSX3 := fun _ X env S => X c env S
def tCallX (sp : Sp3X) (ta : TA3) : TEX3 := fun env S Q X => ta env S fun ds S1 => sp ds S1 Q fun c S2 => X c env S2
def tDropX (te : TEX3) : TSX3 := fun D X env S => te env S (fun _ S1 => D.nx env S1) X
def tRetX (te : TEX3) : TSX3 := fun D X env S => te env S D.rt X
def tSetX (i : Nat) (te : TEX3) : TSX3 := fun D X env S => te env S (fun x S1 => D.nx (set3 env i x) S1) X
section
variable {X : Cx} {W : WX} {st : Stmt} {rest a b : List Stmt} {t u : TSX3} {e c : Expr} {es : List Expr} {te : TEX3} {tc : TT3} {ta : TA3} {pos p p2 pos' : Pos} {x m : Str} {k j : Nat}
theorem qsx_lift {t : TS3} (h : QS X st t) : QSX X W st (tLift t) := L2.PS.imp h fun D σ H ⟨w, env, S, D3, X3, r, en, t, q, _⟩ => ⟨w, env, S, D3, r, en, t, q⟩
theorem qssx_lift {t : TS3} (h : QSs X rest t) : QSsX X W rest (tLift t) := L2.PSs.imp h fun D σ H ⟨w, env, S, D3, X3, r, en, t, q, _⟩ => ⟨w, env, S, D3, r, en, t, q⟩
theorem qssx_one (h : QSX X W st t) : QSsX X W [st] t := pss_one h
theorem qssx_cons (h1 : QSX X W st t) (h2 : QSsX X W rest u) : QSsX X W (st :: rest) (tSeqX t u) := (pss_cons h1 h2).imp fun D σ H ⟨w, env, S, D3, X3, r, en, t, q, qx⟩ =>
  ⟨w, env, S, _, X3, r, en, t, ⟨fun w1 σ1 H1 env1 S1 e1 r1 en1 t1 => ⟨w1, env1, S1, D3, X3, r1, en1, t1, q.mono e1, qx.mono e1⟩, q.rt, q.bk, q.ct⟩, qx⟩
theorem qsx_if (hc : QT X c tc) (ha : QSsX X W a t) (hb : QSsX X W b u) : QSX X W (.If c a b pos) (tIfX tc t u) := (ps_if hc ha hb).imp fun D σ H ⟨w, env, S, D3, X3, r, en, t, q, qx⟩ => by
  refine ⟨w, env, S, _, r, en, t, fun w1 b H1 S1 e1 r1 t1 => ?_⟩
  cases b with
  | true =>
    rw [if_pos rfl] at t1 ⊢
    exact ⟨w1, env, S1, D3, X3, r1, en.mono e1, t1, q.mono e1, qx.mono e1⟩
  | false =>
    rw [if_neg Bool.false_ne_true] at t1 ⊢
    exact ⟨w1, env, S1, D3, X3, r1, en.mono e1, t1, q.mono e1, qx.mono e1⟩
theorem qsx_raise (F : ErrC X.K X.mg x) (hc : X.calm = true) (tk : L2N.Takes X W) (hg : Gl X x) (hdb : (x == ("__debug__" : Str)) = false := by decide) : QSX X W (.Raise (some (.Call (.Name x p) [.Constant (.str m) j p2] [] pos')) none pos) (tRaiseX x) := by
  obtain ⟨C, h1, h2, h3, h4, h5, h6⟩ := F.ex
  exact (L2N.ps_raise hc tk (L2N.pmk_own PySem.F.excBase_ValueError h4 h1 h3 (raises_own h5 h6) hg hdb)).imp fun D σ H ⟨w, env, S, D3, X3, r, en, t, q, qx⟩ => qx w x C σ H env S (Ex3.refl w) r en h2 t
theorem qex_call {sp : Sp3X} (F : Ok3X X.prog X.w X.K X.mg X.base k x sp) (tk : L2N.Takes X W) (hr : Room k X.A) (hg : Gl X x) (ha : QA X (e :: es) ta) (hdb : (x == ("__debug__" : Str)) = false := by decide) (he : starEach (e :: es) X.env = (false, eval e X.env) :: starEach es X.env := by rfl) (hpl : (backTo pos (starEach es X.env)).any (·.1) = false := by rfl) :
    QEX X W (.Call (.Name x p) (e :: es) [] pos) (tCallX sp ta) := by
  obtain ⟨f, fd, ps, hm, kp, b, ok⟩ := F.ex
  exact (pe_callS (E := WE W) ok hr hg hm kp b (fun σ => L2N.passAt tk σ) ha hdb he hpl).imp fun σ H R ⟨w, env, S, Q, X3, r, en, t, q, qx⟩ =>
    ⟨w, env, S, _, r, en, t, fun w1 vs ds H1 S1 e1 r1 p1 t1 => ⟨w1, S1, ds, Q, _, r1, p1, t1, q.mono e1, fun w2 c C H2 S2 e2 r2 n2 x2 => qx w2 c C σ H2 env S2 (e1.trans e2) r2 (en.mono (e1.trans e2)) n2 x2⟩⟩
/-- where no error comes of it -/
theorem qe_callX {sp : Sp3X} (F : Ok3X X.prog X.w X.K X.mg X.base k x sp) (hr : Room k X.A) (hg : Gl X x) (ha : QA X (e :: es) ta) (hdb : (x == ("__debug__" : Str)) = false := by decide) (he : starEach (e :: es) X.env = (false, eval e X.env) :: starEach es X.env := by rfl) (hpl : (backTo pos (starEach es X.env)).any (·.1) = false := by rfl) :
    QE X (.Call (.Name x p) (e :: es) [] pos) (tCB3 (fun ds S Q => sp ds S Q fun _ _ => False) ta) := by
  exact L2.PE.imp (qex_call (W := fun _ _ _ _ => False) F takesN0 hr hg ha hdb he hpl) fun σ H R ⟨w, env, S, Q, r, en, t, q⟩ => ⟨w, env, S, Q, fun _ _ _ => False, r, en, t, q, fun _ _ _ _ _ _ _ _ _ _ _ z => z⟩
theorem qsx_expr (he : QEX X W e te) (hs : swapsWith e none pos.line X.env = pure false := by rfl) : QSX X W (.Expr e pos) (tDropX te) := (ps_expr he hs).imp fun D σ H ⟨w, env, S, D3, X3, r, en, t, q, qx⟩ =>
  ⟨w, env, S, _, X3, r, en, t, fun w1 v d H1 S1 e1 r1 p1 t1 => q.nx w1 σ H1 env S1 e1 r1 (en.mono e1) t1, qx⟩
theorem qsx_ret (he : QEX X W e te) : QSX X W (.Return (some e) pos) (tRetX te) := (ps_ret he).imp fun D σ H ⟨w, env, S, D3, X3, r, en, t, q, qx⟩ => ⟨w, env, S, _, X3, r, en, t, q.rt, qx⟩
theorem qsx_set {i : Nat} (hN : X.N.Nodup) (hi : X.N[i]? = some x) (hx : Loc X.env.scope x) (he : QEX X W e te) (hs : swapsWith e (some (.Name x pos')) pos.line X.env = pure false := by rfl) (hf : X.fn x = true ∨ X.env.scope.names.lookup x = some .local := by first | exact .inl rfl | exact .inr rfl | assumption) :
    QSX X W (.Assign [.Name x pos'] e pos) (tSetX i te) := (ps_set hN hi hx he hs hf).imp fun D σ H ⟨w, env, S, D3, X3, r, en, t, q, qx⟩ =>
  ⟨w, env, S, _, X3, r, en, t, fun w1 v d H1 S1 e1 r1 p1 t1 => q.nx w1 _ H1 _ S1 e1 r1 ((en.mono e1).set i p1) t1, qx⟩
end
/-- a def's error: the store's last objects are forgotten -/
def FinX (S : S3) (X : Str → S3 → Prop) : NX3 := fun c _ S' => ∃ L, S.length ≤ L ∧ X c (S'.take L)
theorem finX {S : S3} {X : Str → S3 → Prop} {c : Str} {e : E3} (h : X c S) : FinX S X c e S := ⟨S.length, Nat.le_refl _, by rw [List.take_length]; exact h⟩
section
variable {P : Program} {w : World} {K : PySem.W.Frag} {mg : Str → Option Value} {base : Heap}
theorem takesF {N : List Str} {qual : Str} {scope : Scope} {f : Addr} {cdv : Value} {A : Around} {outer : List Env} {s : Shared} {H : Hp} {E : XK} : L2N.Takes (cxOf (L2N.CX P w) P w K mg base N qual scope f cdv A outer s H E) (fun cls d _ H' => E cls d H') := L2N.takes_of rfl rfl rfl rfl
theorem passF {N : List Str} {qual : Str} {scope : Scope} {f : Addr} {cdv : Value} {A : Around} {outer : List Env} {s : Shared} {H : Hp} {E : XK} : PassesOwn (model P w) (A.deeper (envOfC qual scope s.heap.objs.size f cdv)) (envOfC qual scope s.heap.objs.size f cdv) (cxOf (L2N.CX P w) P w K mg base N qual scope f cdv A outer s H E).xe :=
  passes_of (X := cxOf (L2N.CX P w) P w K mg base N qual scope f cdv A outer s H E) rfl
/-- THE RULE for a def that may raise -/
theorem Ok3X.mk' {x : Str} {st : Stmt} {f : Addr} {fd : FuncData} {N ps : List Str} {k : Nat} {sp : Sp3X} {t3 : TSX3} (F : Fun K x x st f fd) (hm : mg x = some (.ref f)) (b : Binds K fd ps []) (sc : FnScope N ps (defScope st))
    (hlen : ∀ ds S Q E, sp ds S Q E → ds.length = ps.length)
    (body : ∀ (cdv : Value) (A : Around) (outer : List Env) (s : Shared) (H : Hp) (E : XK), Room k (A.deeper (envOfC x (defScope st) s.heap.objs.size f cdv)) → QSsX (cxOf (L2N.CX P w) P w K mg base N x (defScope st) f cdv A outer s H E) (fun cls d _ H' => E cls d H') (defBody st) t3)
    (read : ∀ ds S Q E, sp ds S Q E → t3 { nx := fun _ S' => Fin3 S Q (.p .none) S', rt := Fin3 S Q } (FinX S E) (env0 N.length ds) S) : Ok3X P w K mg base (k + 1) x sp := by
  refine ⟨f, fd, ps, hm, F.kp, b, okXN F sc (fun vs H Q E h => ?_) (fun cdv A outer s H vs Q E hr h => ?_)⟩
  · obtain ⟨w3, S, ds, Q3, X3, r, rd, hs, q, _⟩ := h
    rw [RepDs.length rd]
    exact hlen ds S Q3 X3 hs
  · obtain ⟨w3, S, ds, Q3, X3, r, rd, hs, q, qx⟩ := h
    refine ⟨_, body cdv A outer s H E hr, ?_⟩
    have cut : ∀ {w4 : W3} {L : Nat}, Ex3 w3 w4 → S.length ≤ L → Ex3 w3 ⟨w4.al.take L, w4.h, w4.pn⟩ := fun {w4 L} e4 hL => by
      refine ⟨⟨?_, e4.h⟩, e4.pn⟩
      obtain ⟨t, ht⟩ := e4.al
      refine ⟨t.take (L - w3.al.length), ?_⟩
      show w4.al.take L = _
      rw [ht, List.take_append, List.take_of_length_le (by rw [r.len]; exact hL)]
    have fin : ∀ (w4 : W3) (v : V) (d : D) (H' : Hp) (S' : S3), Ex3 w3 w4 → Rel3 K w4 H' S' → RepD K w4 v d → Fin3 S Q3 d S' → Q v H' := fun w4 v d H' S' e4 r4 p4 ⟨L, hL, hb, h4⟩ => by
      refine q ⟨w4.al.take L, w4.h, w4.pn⟩ v d H' (S'.take L) (cut e4 hL) (r4.shrink L) ?_ h4
      cases d with
      | p d => exact p4
      | exc c => exact p4
      | loc m =>
        obtain ⟨a, h5, h6⟩ := p4
        exact ⟨a, by show (w4.al.take L)[m]? = _; rw [List.getElem?_take_of_lt hb]; exact h5, h6⟩
    exact ⟨w3, _, S, _, _, r, env_start rd, read ds S Q3 X3 hs, ⟨fun w4 σ' H' env' S' e4 r4 _ h4 => fin w4 .non (.p .none) H' S' e4 r4 rep_non h4, fun w4 v d H' S' e4 r4 p4 h4 => fin w4 v d H' S' e4 r4 p4 h4,
      fun _ _ _ _ _ _ _ _ h => h.elim, fun _ _ _ _ _ _ _ _ h => h.elim⟩, fun w4 c C σ' H' env' S' e4 r4 _ n4 ⟨L, hL, h4⟩ => qx _ c C H' _ (cut e4 hL) (r4.shrink L) n4 h4⟩
end
/-! ### try: body, except x as n: suite -/
def tTry3 (tbl : Str → Bool) (i : Nat) (tb : TSX3) (ts : TS3) : TS3 := fun D env S => tb D (fun c e s => tbl c = true ∧ ts { nx := fun e1 s1 => D.nx (wipe3 e1 [i]) s1, rt := D.rt, bk := fun e1 s1 => D.bk (wipe3 e1 [i]) s1, ct := fun e1 s1 => D.ct (wipe3 e1 [i]) s1 } (set3 e i (.exc c)) s) env S
section
variable {X : Cx} {x n : Str} {cv : Value} {i : Nat} {body suite : List Stmt} {b₀ : Stmt} {np pos pos' : Pos} {tb : TSX3} {ts : TS3} {tbl : Str → Bool}
theorem qs_try (hs : X.stack = X.env :: X.outer) (hf : X.env.frame = some X.env.locals) (hx : X.ex = []) (hN : X.N.Nodup) (hi : X.N[i]? = some n) (hln : X.env.kindOf n = some .local) (hc : Names X x cv)
    (ht : ∀ (c : Str) (C : Addr), PySem.W.nsIn X.K mainGlobals c = some (some (.ref C)) → tbl c = true → PySem.W.exmOne X.K (.ref C) cv = some true)
    (hb : ∀ (W : WX) (pn : List (Addr × Obj)) (xe : Value → Shared → Prop), L2N.Takes (X.tr pn xe) W → PassesOwn (model X.prog X.w) X.A X.env xe → QSsX (X.tr pn xe) W body tb)
    (hsu : ∀ (a : Addr) (pn : List (Addr × Obj)), QSs (X.suite a pn) (b₀ :: suite) ts) :
    QS X (.Try body [.ExceptHandler (some (.Name x np)) (some n) (b₀ :: suite) pos'] [] [] pos) (tTry3 tbl i tb ts) :=
  (ps_tryT (Wo := fun _ _ _ _ => False) (tb := fun W => lowSX X.K W tb) (ts := fun _ _ _ => lowS X.K ts) hs hf hx hN hi hln hc takesN0 hb (fun a _ _ pn => hsu a pn)).imp fun D σ H ⟨w, env, S, D3, r, en, t, q⟩ => by
    refine ⟨w, env, S, D3, _, r, en, t, q, fun w1 c C σ1 H1 env1 S1 e1 r1 en1 n1 ⟨h1, h2⟩ => ?_⟩
    refine ⟨true, ht c C n1 h1, fun _ a na => ?_, fun z => by cases z⟩
    obtain ⟨r2, e2⟩ := r1.frz (u := ErrO (.ref C) none a) na trivial
    have er : RepD X.K ⟨w1.al, upd w1.h a (ErrO (.ref C) none a), w1.pn⟩ (.ref a) (.exc c) := ⟨a, C, _, rfl, n1, upd_same, fun g hg => hg, fun _ z => nomatch z⟩
    refine ⟨_, _, S1, _, r2, (en1.mono e2).set i er, h2, ?_⟩
    have e12 := e1.trans e2
    exact ⟨fun w3 σ3 H3 env3 S3 e3 r3 en3 t3 => q.nx w3 _ H3 _ S3 (e12.trans e3) r3 (en3.wipe [i]) t3, q.rt.mono e12, fun w3 σ3 H3 env3 S3 e3 r3 en3 t3 => q.bk w3 _ H3 _ S3 (e12.trans e3) r3 (en3.wipe [i]) t3, fun w3 σ3 H3 env3 S3 e3 r3 en3 t3 => q.ct w3 _ H3 _ S3 (e12.trans e3) r3 (en3.wipe [i]) t3⟩
end

/-! ### isinstance(e, T), isinstance(e, (T, ..)), e an error -/
/-- for each error class whether its errors are instances of cv -/
structure XTab (K : PySem.W.Frag) (cvs : List Value) (l : List (Str × Bool)) : Prop where
  at_ : ∀ (c : Str) (C : Addr) (b : Bool), PySem.W.nsIn K mainGlobals c = some (some (.ref C)) → l.lookup c = some b → ExcC K C ∧ PySem.W.kitAny K (.ref C) cvs = some b
theorem XTab.nil {K : PySem.W.Frag} {cvs : List Value} : XTab K cvs [] := ⟨fun _ _ _ _ h => by cases h⟩
theorem XTab.cons {K : PySem.W.Frag} {cvs : List Value} {l : List (Str × Bool)} {c : Str} {C : Addr} {b : Bool} (h1 : PySem.W.nsIn K mainGlobals c = some (some (.ref C))) (E : ExcC K C) (k : PySem.W.kitAny K (.ref C) cvs = some b) (r : XTab K cvs l) : XTab K cvs ((c, b) :: l) :=
  ⟨fun c' C' b' g1 g2 => by
    rw [List.lookup_cons] at g2
    split at g2
    · rename_i hc
      have e : c' = c := by simpa using hc
      subst e
      cases g2
      have := h1.symm.trans g1
      simp only [Option.some.injEq, Value.ref.injEq] at this
      subst this
      exact ⟨E, k⟩
    · exact r.at_ c' C' b' g1 g2⟩
theorem kitAny_one {K : PySem.W.Frag} {t c : Value} {b : Bool} (h : PySem.W.kitAny K t [c] = some b) : PySem.W.kitOne K t c = some b := by
  unfold PySem.W.kitAny at h
  cases q : PySem.W.kitOne K t c with
  | none => rw [q] at h; cases h
  | some v =>
    rw [q] at h
    cases v with
    | true => exact h
    | false => exact h
section
variable {X : Cx}
theorem err_inst {pins : List (Addr × Obj)} {σ : L2.St} {H : Hp} {s : Shared} {a C : Addr} {φ : Heap → Prop} (I : L2.Inv X pins σ H s) (ha : H a = some (.ext φ)) (hφ : ∀ g, φ g → ∃ oe vs, g.get? a = some oe ∧ Zc (.ref C) none oe ∧ oe.data = .fields vs) :
    ∃ oe, PySem.W.InstAt s.heap a oe C none := by
  obtain ⟨h1, _, _⟩ := I.hok a _ ha
  obtain ⟨oe, vs, g1, g2, g3⟩ := hφ _ h1
  refine ⟨oe, ?_⟩
  obtain ⟨oc, od, oda, osl⟩ := oe
  obtain ⟨z1, z2⟩ := g2
  dsimp only at z1 z2 g3
  subst z1 z2 g3
  exact ⟨g1, rfl, rfl, trivial⟩
/-- the error at a, of the class C -/
def ErrAt (H : Hp) (a C : Addr) : Prop := ∃ φ : Heap → Prop, H a = some (.ext φ) ∧ ∀ g, φ g → ∃ oe vs, g.get? a = some oe ∧ Zc (.ref C) none oe ∧ oe.data = .fields vs
theorem call_isX : CallR X (.builtin "isinstance") (fun xs H Q => ∃ (a C : Addr) (y : V) (cv : Value) (b : Bool), xs = [.ref a, y] ∧ ErrAt H a C ∧ ExcC X.K C ∧ (∀ u, RelV y u → u = cv) ∧ PySem.W.kitOne X.K (.ref C) cv = some b ∧ Q (.bl b) H) := by
  intro pins s σ H xs us Q I r h
  obtain ⟨a, C, y, cv, b, rfl, ⟨φ, ha, hφ⟩, E, hy, hk, q⟩ := h
  cases r with
  | cons rx rr =>
    cases rr with
    | cons ry rr =>
      cases rr
      cases rx
      have e := hy _ ry
      subst e
      obtain ⟨oe, J⟩ := err_inst I ha hφ
      exact PySem.W.kia_one (PySem.W.handS_kitx_exc E.hg E.hk E.hs E.hd E.ha E.hn E.ht E.hm) I.kIn J hk (fun z => nomatch z) fun tk => ⟨.bl b, H, I.kept (t' := tk) fun _ _ z => z, rfl, q⟩
theorem refs_vals : ∀ {Ds : List Addr} {us : List Value}, Vals (Ds.map V.ref) us → us = Ds.map Value.ref
  | [], _, .nil => rfl
  | _ :: _, _, .cons r t => by
    cases r
    rw [refs_vals t]
    rfl
theorem call_isXT : CallR X (.builtin "isinstance") (fun xs H Q => ∃ (a C p : Addr) (Ds : List Addr) (b : Bool), xs = [.ref a, .ref p] ∧ ErrAt H a C ∧ ExcC X.K C ∧ H p = some (.tup (Ds.map V.ref)) ∧ PySem.W.kitAny X.K (.ref C) (Ds.map Value.ref) = some b ∧ Q (.bl b) H) := by
  intro pins s σ H xs us Q I r h
  obtain ⟨a, C, p, Ds, b, rfl, ⟨φ, ha, hφ⟩, E, hp, hk, q⟩ := h
  cases r with
  | cons rx rr =>
    cases rr with
    | cons ry rr =>
      cases rr
      cases rx
      cases ry
      obtain ⟨oe, J⟩ := err_inst I ha hφ
      obtain ⟨its, rv, ⟨o, ho, hc, n, hd⟩, _⟩ := I.tuple (.inl (.inl hp))
      obtain ⟨oc, od, oda, osl⟩ := o
      dsimp only at hc hd
      subst hc hd
      have e := refs_vals rv
      subst e
      exact PySem.W.kia_tup (PySem.W.handS_kitx_exc E.hg E.hk E.hs E.hd E.ha E.hn E.ht E.hm) I.kIn J ho hk (fun z => nomatch z) fun tk => ⟨.bl b, H, I.kept (t' := tk) fun _ _ z => z, rfl, q⟩
end
def tIsX (l : List (Str × Bool)) (te : TE3) : TE3 := fun env S Q => te env S fun x S1 => match x with
  | .exc c _ => (match l.lookup c with
    | some b => Q (.p (.bool b)) S1
    | none => False)
  | _ => False
theorem repX_low {K : PySem.W.Frag} {w : W3} {H : Hp} {S : S3} {v : V} {c : Str} {o : Option Addr} (r : Rel3 K w H S) (p : RepD K w v (.exc c o)) : ∃ a C, v = .ref a ∧ PySem.W.nsIn K mainGlobals c = some (some (.ref C)) ∧ ErrAt H a C := by
  obtain ⟨a, C, φ, h1, h2, h3, h4, _⟩ := p
  exact ⟨a, C, h1, h2, φ, r.sub _ _ h3, fun g hg => let ⟨oe, vs, k1, k2, k3⟩ := h4 g hg; ⟨oe, vs, k1, k2.zc, k3⟩⟩
theorem Rel3.more {K : PySem.W.Frag} {w : W3} {H : Hp} {S : S3} (r : Rel3 K w H S) {a : Addr} {u : HO} (hn : H a = none) : Rel3 K w (upd H a u) S := by
  have hw : w.h a = none := r.sub.free hn
  refine ⟨fun b x e => ?_, r.sz, r.len, fun n b x e q => ?_, r.dead, r.nd, fun b o hb => ?_, r.pnd⟩
  · rw [upd_ne (ne_of_none e hw)]
    exact r.sub b x e
  · obtain ⟨h1, y, h2, h3⟩ := r.live n b x e q
    exact ⟨h1, y, by rw [upd_ne (r.notal hn n b e)]; exact h2, h3⟩
  · obtain ⟨h1, h2, h3⟩ := r.pin b o hb
    have nb : b ≠ a := fun z => by rw [z, hn] at h1; cases h1
    exact ⟨by rw [upd_ne nb]; exact h1, h2, h3⟩
section
variable {X : Cx} {e : Expr} {te : TE3} {pi px pos : Pos} {x : Str} {l : List (Str × Bool)}
/-- T a class of the program -/
theorem qe_isX {D : Addr} (hg : Gl X "isinstance") (hm : X.mg "isinstance" = none) (hgx : Gl X x) (hmx : X.mg x = some (.ref D)) (T : XTab X.K [.ref D] l) (he : QE X e te) (hdx : (x == ("__debug__" : Str)) = false := by decide)
    (h1 : starEach [e, .Name x px] X.env = (false, eval e X.env) :: starEach [.Name x px] X.env := by rfl) (h2 : starEach [.Name x px] X.env = (false, eval (.Name x px) X.env) :: starEach [] X.env := by rfl) (hpl : (backTo pos (starEach [.Name x px] X.env)).any (·.1) = false := by rfl) :
    QE X (.Call (.Name "isinstance" pi) [e, .Name x px] [] pos) (tIsX l te) :=
  (pe_callB call_isX hg hm (by decide +kernel) (pa_cons he (pa_cons (pe_glob (v := .ref D) hgx hmx rfl hdx) pa_nil h2) h1) (by decide) (by decide) h1 hpl).imp fun σ H R ⟨w, env, S, Q, r0, en, t, q⟩ => by
    refine ⟨w, env, S, _, r0, en, t, fun w1 v d H1 S1 e1 r1 p1 t1 => ?_⟩
    split at t1
    · rename_i c o_
      split at t1
      · rename_i b hb
        obtain ⟨a, C, rfl, n1, A1⟩ := repX_low r1 p1
        obtain ⟨E, k⟩ := T.at_ c C b n1 hb
        exact ⟨a, C, .ref D, .ref D, b, rfl, A1, E, fun u z => by cases z; rfl, kitAny_one k, q _ _ _ _ _ e1 r1 rep_bl t1⟩
      · exact t1.elim
    · exact t1.elim
/-- T a built-in class -/
theorem qe_isXB {B : String} (hg : Gl X "isinstance") (hm : X.mg "isinstance" = none) (hgx : Gl X x) (hmx : X.mg x = none) (hvx : bootBuiltins x = some (.type B)) (T : XTab X.K [.type B] l) (he : QE X e te) (hnx : x ≠ "__name__" := by decide) (hdx : (x == ("__debug__" : Str)) = false := by decide)
    (h1 : starEach [e, .Name x px] X.env = (false, eval e X.env) :: starEach [.Name x px] X.env := by rfl) (h2 : starEach [.Name x px] X.env = (false, eval (.Name x px) X.env) :: starEach [] X.env := by rfl) (hpl : (backTo pos (starEach [.Name x px] X.env)).any (·.1) = false := by rfl) :
    QE X (.Call (.Name "isinstance" pi) [e, .Name x px] [] pos) (tIsX l te) :=
  (pe_callB call_isX hg hm (by decide +kernel) (pa_cons he (pa_cons (pe_bltn (v := .ty B) hgx hmx hvx rfl hnx hdx) pa_nil h2) h1) (by decide) (by decide) h1 hpl).imp fun σ H R ⟨w, env, S, Q, r0, en, t, q⟩ => by
    refine ⟨w, env, S, _, r0, en, t, fun w1 v d H1 S1 e1 r1 p1 t1 => ?_⟩
    split at t1
    · rename_i c o_
      split at t1
      · rename_i b hb
        obtain ⟨a, C, rfl, n1, A1⟩ := repX_low r1 p1
        obtain ⟨E, k⟩ := T.at_ c C b n1 hb
        exact ⟨a, C, .ty B, .type B, b, rfl, A1, E, fun u z => by cases z; rfl, kitAny_one k, q _ _ _ _ _ e1 r1 rep_bl t1⟩
      · exact t1.elim
    · exact t1.elim
/-- names of classes -/
inductive PCls (X : Cx) : List Expr → List Addr → Prop
  | nil : PCls X [] []
  | cons {x : Str} {px : Pos} {D : Addr} {es : List Expr} {Ds : List Addr} : Gl X x → X.mg x = some (.ref D) → (x == ("__debug__" : Str)) = false → starEach (.Name x px :: es) X.env = (false, eval (.Name x px) X.env) :: starEach es X.env → PCls X es Ds → PCls X (.Name x px :: es) (D :: Ds)
theorem pa_cls {es : List Expr} {Ds : List Addr} (h : PCls X es Ds) : PA X es (fun σ H R => R (Ds.map V.ref) H) := by
  induction h with
  | nil => exact pa_nil
  | cons h1 h2 h3 h4 _ ih => exact (pa_cons (pe_glob (v := .ref _) h1 h2 rfl h3) ih h4).imp fun σ H R q => q
theorem qe_isXT {es : List Expr} {Ds : List Addr} {kk : Nat} (hg : Gl X "isinstance") (hm : X.mg "isinstance" = none) (hes : PCls X es Ds) (T : XTab X.K (Ds.map Value.ref) l) (he : QE X e te) (hz : Ds.length ≤ 1000)
    (h1 : starEach [e, .Tuple es kk px] X.env = (false, eval e X.env) :: starEach [.Tuple es kk px] X.env := by rfl) (h2 : starEach [.Tuple es kk px] X.env = (false, eval (.Tuple es kk px) X.env) :: starEach [] X.env := by rfl) (hpl : (backTo pos (starEach [.Tuple es kk px] X.env)).any (·.1) = false := by rfl) :
    QE X (.Call (.Name "isinstance" pi) [e, .Tuple es kk px] [] pos) (tIsX l te) :=
  (pe_callB call_isXT hg hm (by decide +kernel) (pa_cons he (pa_cons (pe_tup (pa_cls hes)) pa_nil h2) h1) (by decide) (by decide) h1 hpl).imp fun σ H R ⟨w, env, S, Q, r0, en, t, q⟩ => by
    refine ⟨w, env, S, _, r0, en, t, fun w1 v d H1 S1 e1 r1 p1 t1 => ?_⟩
    refine ⟨by rw [List.length_map, sizeLine_eq]; omega, fun p hn => ?_⟩
    split at t1
    · rename_i c o_
      split at t1
      · rename_i b hb
        obtain ⟨a, C, rfl, n1, φ, A1, A2⟩ := repX_low r1 p1
        obtain ⟨E, k⟩ := T.at_ c C b n1 hb
        have nap : a ≠ p := fun z => by rw [z, hn] at A1; cases A1
        exact ⟨a, C, p, Ds, b, rfl, ⟨φ, by rw [upd_ne nap]; exact A1, A2⟩, E, upd_same, k, q _ _ _ _ _ e1 (r1.more hn) rep_bl t1⟩
      · exact t1.elim
    · exact t1.elim
end
end L3

set_option maxHeartbeats 2000000
/-! MY: texts. str(int), int(text), text.split(sep), sep.join(texts), a text walked, a sign in a text. -/
namespace L3
open PySem PySem.Spec PyProof.Rows L2
def rStrI3 : C3 := fun ds S Q => match ds with
  | [.p (.int i)] => i.natAbs.log2 < 1920 ∧ Q (.p (.str (toString i))) S
  | _ => False
def rIntS3 : C3 := fun ds S Q => match ds with
  | [.p (.str a)] => a.length ≤ 640 ∧ (match PySem.intText? a with
    | some n => Q (.p (.int n)) S
    | none => False)
  | ds => rIntOf3 ds S Q
def strs3 : List PyData → Option (List Str)
  | [] => some []
  | .str a :: ds => (strs3 ds).map (a :: ·)
  | _ :: _ => none
theorem strs3_map : ∀ ys : List Str, strs3 (ys.map PyData.str) = some ys
  | [] => rfl
  | y :: ys => by
    rw [List.map_cons]
    unfold strs3
    rw [strs3_map ys]
    rfl
theorem strs3_eq : ∀ {ds : List PyData} {ys : List Str}, strs3 ds = some ys → ds = ys.map PyData.str
  | [], ys, h => by cases h; rfl
  | d :: ds, ys, h => by
    cases d with
    | str a =>
      unfold strs3 at h
      cases e : strs3 ds with
      | none => rw [e] at h; cases h
      | some zs =>
        rw [e] at h
        cases h
        rw [strs3_eq e]
        rfl
    | _ => cases h
def tSplit3 (to te : TE3) : TE3 := fun env S Q => to env S fun x S1 => match x with
  | .p (.str a) => te env S1 fun y S2 => match y with
    | .p (.str b) => (b.length == 0) = false ∧ a.length + 2 ≤ 16777216 ∧ (Txt.split a b).length ≤ 16777216 ∧ Q (.p (.list ((Txt.split a b).map PyData.str))) S2
    | _ => False
  | _ => False
def tJoin3 (to te : TE3) : TE3 := fun env S Q => to env S fun x S1 => match x with
  | .p (.str a) => te env S1 fun y S2 => match lst3 S2 y with
    | some ds => (match strs3 ds with
      | some ys => (ys.map (·.length)).sum + ys.length * a.length ≤ 16777216 ∧ Q (.p (.str (Txt.join a ys))) S2
      | none => False)
    | none => False
  | _ => False
def tSIdx3 (to te : TE3) : TE3 := fun env S Q => to env S fun x S1 => match x with
  | .p (.str a) => te env S1 fun y S2 => match y with
    | .p (.str b) => (match Builtin.Str.occurrences a b 0 a.length 1 with
      | i :: _ => Q (.p (.int (i : Nat))) S2
      | [] => False)
    | _ => False
  | _ => False
/-- len of an own list of own lists -/
def rLenL3 : C3 := fun ds S Q => match ds with
  | [d] => (match lls3 S d with
    | some (_, es) => Q (.p (.int es.length)) S
    | none => False)
  | _ => False
def sgs (x : Str) : List PyData := x.cps.toList.map fun c => .str ⟨#[c]⟩
def tStrI3 (te : TE3) : TI3 := fun env S Q => te env S fun x S1 => match x with
  | .p (.str x) => x.length ≤ 16777216 ∧ Q (sgs x) (fun _ => True) S1
  | _ => False
def rInT3 : R3 := fun x y S Q => match x, y with
  | .p (.str a), .p (.str z) => (match a.cps.toList with
    | [c] => Q (.p (.bool (decide (c ∈ z.cps.toList)))) S
    | _ => False)
  | _, _ => False
section
variable {X : Cx}
theorem cq_strI : CQ X (.type "str") rStrI3 := callq call_str_int fun w S ds xs H Q R r0 p1 t q => by
  unfold rStrI3 at t
  split at t
  · obtain ⟨v, rfl, p⟩ := rds1 p1
    have := dp_int p
    subst this
    exact ⟨_, rfl, t.1, q.str r0 t.2⟩
  · exact t.elim
theorem cq_lenL : CQ X (.builtin "len") rLenL3 := callq call_len fun w S ds xs H Q R r0 p1 t q => by
  unfold rLenL3 at t
  split at t
  · split at t
    · rename_i n es h1
      obtain ⟨v, rfl, p⟩ := rds1 p1
      obtain ⟨a, ys, rfl, _, _, _, hu, hp, _⟩ := lls3_low r0 p h1
      exact ⟨_, es.length, rfl, .inl ⟨ys, .inl (.inl hu), (Paired.length hp).symm⟩, q.int r0 t⟩
    · exact t.elim
  · exact t.elim
theorem cq_intS : CQ X (.type "int") rIntS3 := CallR.imp (CallR.or (callq (r := fun ds S Q => ∃ a, ds = [.p (.str a)] ∧ a.length ≤ 640 ∧ ∃ n, PySem.intText? a = some n ∧ Q (.p (.int n)) S) call_int_str fun w S ds xs H Q R r0 p1 t q => by
    obtain ⟨a, rfl, hl, n, hn, t⟩ := t
    obtain ⟨v, rfl, p⟩ := rds1 p1
    have := dp_str p
    subst this
    exact ⟨a, n, rfl, hn, hl, q.int r0 t⟩) cq_int) fun xs H R ⟨w, S, ds, Q, r0, p1, t, q⟩ => by
  unfold rIntS3 at t
  split at t
  · refine .inl ⟨w, S, _, Q, r0, p1, ⟨_, rfl, t.1, ?_⟩, q⟩
    have t2 := t.2
    split at t2
    · rename_i n hn
      exact ⟨n, hn, t2⟩
    · exact t2.elim
  · exact .inr ⟨w, S, _, Q, r0, p1, t, q⟩
theorem oq_inT : OQ X (compareOp .In) rInT3 := opq op_in_sign fun w S d e x y H Q R r0 p1 p2 t q => by
  unfold rInT3 at t
  split at t
  · rename_i a z
    split at t
    · rename_i c hc
      have e1 := dp_str p1
      have e2 := dp_str p2
      subst e1 e2
      refine ⟨c, z, ?_, rfl, q.bl r0 t⟩
      congr 1
      exact Str.ext' (by rw [← Array.toList_inj, hc])
    · exact t.elim
  · exact t.elim
theorem dp_strs {K : PySem.W.Frag} {h : Hp} : ∀ {vs : List V} {ys : List Str}, DpAll K h vs (ys.map PyData.str) → vs = ys.map V.str
  | [], [], _ => rfl
  | v :: vs, y :: ys, a => by
    cases a with
    | cons a b =>
      cases a
      rw [dp_strs b]
      rfl
  | [], _ :: _, a => by cases a
  | _ :: _, [], a => by cases a
theorem dpStrs {K : PySem.W.Frag} {h : Hp} : ∀ (ys : List Str), DpAll K h (ys.map V.str) (ys.map PyData.str)
  | [] => .nil
  | y :: ys => .cons (.str y) (dpStrs ys)
variable {o e : Expr} {to te : TE3} {apos pos : Pos} {tg : Expr}
theorem qe_split (ho : QE X o to) (he : QE X e te) (hs : starEach [e] X.env = [(false, eval e X.env)] := by rfl) (hbase : attributeBase o "split" X.env (eval o X.env) = eval o X.env := by rfl) (hline : (apos.endLine == pos.line) = true := by rfl) :
    QE X (.Call (.Attribute o "split" apos) [e] [] pos) (tSplit3 to te) := L2.PE.imp (pe_split ho he hs hbase hline) fun σ H R ⟨w, env, S, Q, r0, en, t, q⟩ => by
  have hz : sizeLine = 16777216 := sizeLine_eq
  refine ⟨w, env, S, _, r0, en, t, fun w1 v d H1 S1 e1 r1 p1 t1 => ?_⟩
  split at t1
  · rename_i a
    have := dp_str p1
    subst this
    refine ⟨⟨a, rfl⟩, ?_⟩
    refine ⟨w1, env, S1, _, r1, en.mono e1, t1, fun w2 u c H2 S2 e2 r2 p2 t2 => ?_⟩
    split at t2
    · rename_i b
      have := dp_str p2
      subst this
      exact ⟨a, b, rfl, rfl, t2.1, by omega, fun p hp => ((q.mono e1).mono e2).lst r2 (dpStrs _) (by rw [List.length_map]; omega) t2.2.2.2 p hp⟩
    · exact t2.elim
  · exact t1.elim
theorem qe_join (ho : QE X o to) (he : QE X e te) (hs : starEach [e] X.env = [(false, eval e X.env)] := by rfl) (hbase : attributeBase o "join" X.env (eval o X.env) = eval o X.env := by rfl) (hline : (apos.endLine == pos.line) = true := by rfl) :
    QE X (.Call (.Attribute o "join" apos) [e] [] pos) (tJoin3 to te) := L2.PE.imp (pe_join ho he hs hbase hline) fun σ H R ⟨w, env, S, Q, r0, en, t, q⟩ => by
  refine ⟨w, env, S, _, r0, en, t, fun w1 v d H1 S1 e1 r1 p1 t1 => ?_⟩
  split at t1
  · rename_i a
    have := dp_str p1
    subst this
    refine ⟨⟨a, rfl⟩, ?_⟩
    refine ⟨w1, env, S1, _, r1, en.mono e1, t1, fun w2 u c H2 S2 e2 r2 p2 t2 => ?_⟩
    split at t2
    · rename_i ds h1
      split at t2
      · rename_i ys h2
        have := strs3_eq h2
        subst this
        obtain ⟨l, xs, rfl, hq, ha, hzz⟩ := lst3_low r2 p2 h1
        rw [dp_strs ha] at hq
        exact ⟨a, l, ys, rfl, rfl, .inl hq, t2.1, ((q.mono e1).mono e2).str r2 t2.2⟩
      · exact t2.elim
    · exact t2.elim
  · exact t1.elim
theorem qe_sidx (ho : QE X o to) (he : QE X e te) (hs : starEach [e] X.env = [(false, eval e X.env)] := by rfl) (hbase : attributeBase o "index" X.env (eval o X.env) = eval o X.env := by rfl) (hline : (apos.endLine == pos.line) = true := by rfl) :
    QE X (.Call (.Attribute o "index" apos) [e] [] pos) (tSIdx3 to te) := L2.PE.imp (pe_m1 PySem.F.slot_str_index PySem.F.type_str_index mt_sindex ho he hs hbase hline) fun σ H R ⟨w, env, S, Q, r0, en, t, q⟩ => by
  refine ⟨w, env, S, _, r0, en, t, fun w1 v d H1 S1 e1 r1 p1 t1 => ?_⟩
  split at t1
  · rename_i a
    have := dp_str p1
    subst this
    refine ⟨⟨a, rfl⟩, ?_⟩
    refine ⟨w1, env, S1, _, r1, en.mono e1, t1, fun w2 u c H2 S2 e2 r2 p2 t2 => ?_⟩
    split at t2
    · rename_i b
      have := dp_str p2
      subst this
      split at t2
      · rename_i i rest h1
        exact ⟨a, b, i, rest, rfl, rfl, h1, ((q.mono e1).mono e2).int r2 t2⟩
      · exact t2.elim
    · exact t2.elim
  · exact t1.elim
theorem qe_call0 {k : Nat} {x : Str} {p : Pos} {sp : Sp3} (F : Ok3 X.prog X.w X.K X.mg X.base k x sp) (hr : Room k X.A) (hg : Gl X x) (hdb : (x == ("__debug__" : Str)) = false := by decide) :
    QE X (.Call (.Name x p) [] [] pos) (tCB3 sp tNil3) := by
  obtain ⟨f, fd, ps, hm, kp, b, ok⟩ := F.ex
  refine (pe_call0 ok hr hg hm kp b .nil pass0 hdb).imp fun σ H R h => ?_
  have := lowCB h
  obtain ⟨w, env, S, Q, r0, en, t, q⟩ := this
  show lowC X.K sp ([] ++ []) H R
  exact q w [] [] H S (Ex3.refl w) r0 trivial t
theorem itr_str {K : PySem.W.Frag} {w : W3} (x : Str) : ItR K w (Its x) (sgs x) fun _ => True := fun w' H S e r _ => by
  have hl : (sgs x).length = x.cps.size := by unfold sgs; rw [List.length_map, Array.length_toList]
  refine ⟨fun i hi => by show x.cps.size ≤ i; omega, fun i y hy => ?_⟩
  have hil := (List.getElem?_eq_some_iff.mp hy).1
  refine ⟨by show i < x.cps.size; omega, fun u H' z => ?_⟩
  obtain ⟨rfl, c, hc, rfl⟩ := z
  unfold sgs at hy
  rw [List.getElem?_map, Array.getElem?_toList, hc] at hy
  cases hy
  exact ⟨w', Ex3.refl _, r, .str _⟩
theorem qi_str (he : QE X e te) : QI X tg e (tStrI3 te) := (pi_str he).imp fun σ H R ⟨w, env, S, Q, r0, en, t, q⟩ => by
  have hz : sizeLine = 16777216 := sizeLine_eq
  refine ⟨w, env, S, _, r0, en, t, fun w1 v d H1 S1 e1 r1 p1 t1 => ?_⟩
  split at t1
  · rename_i x
    have := dp_str p1
    subst this
    exact ⟨x, rfl, q w1 _ H1 S1 (sgs x) _ e1 r1 (itr_str x) (by unfold sgs; rw [List.length_map, Array.length_toList]; have := t1.1; show x.cps.size ≤ _; unfold Str.length at this; omega) t1.2⟩
  · exact t1.elim
end
end L3

set_option maxHeartbeats 2000000
/-! MZ: an own dict of tuple keys, locked while an expression walks its keys. -/
namespace L3
open PySem PySem.Spec PyProof.Rows L2
/-- the own dict in slot i is locked within te -/
def tLk3 (i : Nat) (te : TE3) : TE3 := fun env S Q => match at3 env i with
  | some (.loc n) => (match S[n]? with
    | some (some (.dic kvs)) => ∀ od kxs, te env (S.set n (some (.dif od kxs kvs))) fun d S' => S'[n]? = some (some (.dif od kxs kvs)) ∧ Q d (S'.set n (some (.dic kvs)))
    | _ => False)
  | _ => False
/-- the keys of a locked dict -/
def tKeysD3 (te : TE3) : TI3 := fun env S Q => te env S fun x S1 => match x with
  | .loc n => (match S1[n]? with
    | some (some (.dif od kxs kvs)) => kvs.length ≤ 16777216 ∧ (∀ p ∈ kvs, p.1.length ≤ 16777216) ∧ Q (kvs.map fun p => keyPd p.1) (fun S => S[n]? = some (some (.dif od kxs kvs))) S1
    | _ => False)
  | _ => False
/-- d.get(k, x) of an own dict of tuple keys, x data -/
def tTGetD3 (to ti tx : TE3) : TE3 := fun env S Q => to env S fun o S1 => match dic3 S1 o with
  | some _ => ti env S1 fun i S2 => tx env S2 fun z S3 => (match dic3 S3 o, z with
    | some (_, kvs), .p x => (match keyT i with
      | some k => Q (.p ((valE kvs k).getD x)) S3
      | none => False)
    | _, _ => False)
  | none => False
section
variable {X : Cx} {e : Expr} {te : TE3} {tg : Expr}
theorem qe_tgetD {o i x : Expr} {to ti tx : TE3} {apos pos : Pos} (hK : NoTK X.K) (hu : X.A.units + 64 < cLine) (ho : QE X o to) (hi : QE X i ti) (hx : QE X x tx) (m : M2 X o "get" apos i x pos := by exact ⟨by rfl, by rfl, by rfl, by rfl⟩) : QE X (.Call (.Attribute o "get" apos) [i, x] [] pos) (tTGetD3 to ti tx) := L2.PE.imp (pe_dget2 (by omega) ho hi hx m) fun σ H R ⟨w, env, S, Q, r0, en, t, q⟩ => by
  refine ⟨w, env, S, _, r0, en, t, fun w1 v d H1 S1 e1 r1 p1 t1 => ?_⟩
  split at t1
  · rename_i nk ho1
    obtain ⟨n0, kvs0⟩ := nk
    obtain ⟨a0, kxs0, rfl, _, _, _, hH0, _⟩ := dic3_low r1 p1 ho1
    refine ⟨a0, rfl, .inr ⟨kxs0, .inl hH0⟩, ?_⟩
    refine ⟨w1, env, S1, _, r1, en.mono e1, t1, fun w2 u c H2 S2 e2 r2 p2 t2 => ?_⟩
    refine ⟨w2, env, S2, _, r2, (en.mono e1).mono e2, t2, fun w3 z b H3 S3 e3 r3 p3 t3 => ?_⟩
    split at t3
    · rename_i n kvs y ho'
      split at t3
      · rename_i k hk
        obtain ⟨a, kxs, hva, rfl, ha, hs', hH, hp⟩ := dic3_low r3 ((p1.mono e2).mono e3) ho'
        cases hva
        obtain ⟨b', rfl, hb⟩ := keyT_low hK r3 (p2.mono e3) hk
        refine ⟨valV kxs k, DGet.t hH hb, ?_⟩
        rcases pt_val (k := k) hp with ⟨h1, h2⟩ | ⟨d', v', h1, h2, h3⟩
        · rw [h1] at t3
          rw [h2]
          exact (q.mono ((e1.trans e2).trans e3)).old r3 p3 t3
        · rw [h1] at t3
          rw [h2]
          exact (q.mono ((e1.trans e2).trans e3)).old (d := .p d') r3 h3 t3
      · exact t3.elim
    · exact t3.elim
  · exact t1.elim
theorem qe_lk (i : Nat) (h : QE X e te) : QE X e (tLk3 i te) := L2.PE.imp (pe_lock h) fun σ H R ⟨w, env, S, Q, r, en, t, q⟩ => by
  unfold tLk3 at t
  split at t
  · rename_i n hn
    split at t
    · rename_i kvs hs
      obtain ⟨v, hv, a, ha, rfl⟩ := en.2 i _ hn
      obtain ⟨_, u, hu, kxs, rfl, hp⟩ := r.live n a _ ha hs
      refine ⟨a, .dT kxs, hu, trivial, fun od => ?_⟩
      have r1 : Rel3 X.K w (upd H a (.frz od (.dT kxs))) (S.set n (some (.dif od kxs kvs))) := r.put ha hs ⟨rfl, hp⟩
      refine ⟨w, env, _, _, r1, en, t od kxs, fun w1 v d H1 S1 e1 r2 p1 t1 => ?_⟩
      obtain ⟨hs1, t1⟩ := t1
      obtain ⟨_, u1, hu1, rfl, hp1⟩ := r2.live n a _ (e1.get ha) hs1
      refine ⟨hu1, ?_⟩
      have r3 : Rel3 X.K w1 (upd H1 a (.dT kxs)) (S1.set n (some (.dic kvs))) := r2.put (e1.get ha) hs1 ⟨kxs, rfl, hp1⟩
      exact q w1 v d _ _ e1 r3 p1 t1
    · exact t.elim
  · exact t.elim
theorem pairT_get {α β : Type} {F : α → β → Prop} : ∀ {l : List α} {m : List β} {i : Nat} {a : α} {b : β}, Paired F l m → l[i]? = some a → m[i]? = some b → F a b
  | [], _, i, _, _, _, h, _ => by simp at h
  | x :: l, [], i, _, _, p, _, _ => by cases p
  | x :: l, y :: m, 0, a, b, .cons p _, h1, h2 => by
    cases h1
    cases h2
    exact p
  | x :: l, y :: m, i + 1, a, b, .cons _ ps, h1, h2 => pairT_get (i := i) ps h1 h2
theorem itr_keysT {K : PySem.W.Frag} {w : W3} {a : Addr} {n : Nat} {od : Obj} {kxs : List (List Key × V)} {kvs : List (List Key × PyData)} (ha : w.al[n]? = some a) (hz : ∀ p ∈ kvs, p.1.length ≤ sizeLine) :
    ItR K w (Itkt a od kxs) (kvs.map fun p => keyPd p.1) fun S => S[n]? = some (some (.dif od kxs kvs)) := fun w' H S e r hs => by
  obtain ⟨_, u, hu, rfl, hp⟩ := r.live n a _ (e.get ha) hs
  have hl : kxs.length = kvs.length := Paired.length hp
  refine ⟨fun i hi => ⟨hu, by rw [List.length_map] at hi; omega⟩, fun i x hx => ?_⟩
  rw [List.getElem?_map] at hx
  obtain ⟨p, hpi, rfl⟩ := Option.map_eq_some_iff.mp hx
  have hil := (List.getElem?_eq_some_iff.mp hpi).1
  refine ⟨⟨hu, by omega⟩, fun u H' y => ?_⟩
  obtain ⟨rfl, k, v, q, h1, rfl, h2⟩ := y
  have hk : k = p.1 := (pairT_get hp h1 hpi).1
  subst hk
  obtain ⟨r2, e2⟩ := r.tup h2 (by rw [List.length_map]; exact hz p (List.mem_of_getElem? hpi))
  exact ⟨_, e2, r2, dp_keyPd upd_same⟩
theorem qi_keysD (he : QE X e te) : QI X tg e (tKeysD3 te) := (pi_keys he).imp fun σ H R ⟨w, env, S, Q, r0, en, t, q⟩ => by
  have hz : sizeLine = 16777216 := sizeLine_eq
  refine ⟨w, env, S, _, r0, en, t, fun w1 v d H1 S1 e1 r1 p1 t1 => ?_⟩
  split at t1
  · rename_i n
    split at t1
    · rename_i od kxs kvs hs
      obtain ⟨a, ha, rfl⟩ := p1
      obtain ⟨_, u, hu, rfl, hp⟩ := r1.live n a _ ha hs
      exact ⟨a, od, rfl, .inr ⟨kxs, hu, q w1 _ H1 S1 _ _ e1 r1 (itr_keysT ha fun p hp => by have := t1.2.1 p hp; omega) (by rw [List.length_map]; omega) t1.2.2⟩⟩
    · exact t1.elim
  · exact t1.elim
end
end L3

set_option maxHeartbeats 2000000
/-! NA: an own dict of int and text keys, locked while an expression walks its keys. -/
namespace L3
open PySem PySem.Spec PyProof.Rows L2
/-- the own dict in slot i is locked within te -/
def tLkK3 (i : Nat) (te : TE3) : TE3 := fun env S Q => match at3 env i with
  | some (.loc n) => (match S[n]? with
    | some (some (.dik kvs)) => ∀ od kxs, te env (S.set n (some (.dkf od kxs kvs))) fun d S' => S'[n]? = some (some (.dkf od kxs kvs)) ∧ Q d (S'.set n (some (.dik kvs)))
    | _ => False)
  | _ => False
/-- .. within a statement -/
def tLkS3 (i : Nat) (u : TS3) : TS3 := fun D env S => match at3 env i with
  | some (.loc n) => (match S[n]? with
    | some (some (.dik kvs)) => ∀ od kxs, u { nx := fun e' S' => S'[n]? = some (some (.dkf od kxs kvs)) ∧ D.nx e' (S'.set n (some (.dik kvs))), rt := fun v S' => S'[n]? = some (some (.dkf od kxs kvs)) ∧ D.rt v (S'.set n (some (.dik kvs))), bk := fun e' S' => S'[n]? = some (some (.dkf od kxs kvs)) ∧ D.bk e' (S'.set n (some (.dik kvs))), ct := fun e' S' => S'[n]? = some (some (.dkf od kxs kvs)) ∧ D.ct e' (S'.set n (some (.dik kvs))) } env (S.set n (some (.dkf od kxs kvs)))
    | _ => False)
  | _ => False
def keyP : Key → PyData
  | .inl i => .int i
  | .inr x => .str x
/-- the keys of a locked dict -/
def tKeysK3 (te : TE3) : TI3 := fun env S Q => te env S fun x S1 => match x with
  | .loc n => (match S1[n]? with
    | some (some (.dkf od kxs kvs)) => kvs.length ≤ 16777216 ∧ Q (kvs.map fun p => keyP p.1) (fun S => S[n]? = some (some (.dkf od kxs kvs))) S1
    | _ => False)
  | _ => False
def dkf3 (S : S3) : D → Option (List (Key × D))
  | .loc n => match S[n]? with
    | some (some (.dkf _ _ kvs)) => some kvs
    | _ => none
  | _ => none
/-- d[k] of a locked dict -/
def tDGetF3 (to ti : TE3) : TE3 := fun env S Q => to env S fun o S1 => ti env S1 fun i S2 => match dkf3 S2 o, i with
  | some kvs, .p d => (match key3 d with
    | some k => (match valD kvs k with
      | some v => Q v S2
      | none => False)
    | none => False)
  | _, _ => False
/-- a, b, .. = e, a list -/
def tAsgL3 (te : TE3) (T : Tgs) : TS3 := fun D env S => te env S fun x S1 => match lst3 S1 x with
  | some ds => (match binds3 T ds env with
    | some env2 => D.nx env2 S1
    | none => False)
  | none => False
section
variable {X : Cx} {e o i : Expr} {te to ti : TE3} {tg : Expr} {pos : Pos}
theorem qs_asgL {es : List Expr} {kk : Nat} {T : Tgs} {pos' : Pos} (hc : X.calm = true) (he : QE X e te) (hg : QBs X es T) (hn : (assignEach es X.env).length = T.len := by rfl) (hst : (assignEach es X.env).findIdx? (·.1) = none := by rfl)
    (hs : swapsWithSole [.Tuple es kk pos'] e pos.line X.env = pure false := by rfl) (hw : swappedStores [.Tuple es kk pos'] e X.env = pure none := by rfl)
    (h1 : (assignEach [.Tuple es kk pos'] X.env).map (·.2) = [assign (.Tuple es kk pos') X.env] := by rfl) : QS X (.Assign [.Tuple es kk pos'] e pos) (tAsgL3 te T) := (ps_asg he (pg_lst hc hg hn hst) hs hw h1).imp fun D σ H ⟨w, env, S, D3, r, en, t, q⟩ => by
  refine ⟨w, env, S, _, r, en, t, fun w1 v d H1 S1 e1 r1 p1 t1 => ?_⟩
  split at t1
  · rename_i ds hds
    cases hb : binds3 T ds env with
    | none => simp only [hb] at t1
    | some env2 =>
      simp only [hb] at t1
      obtain ⟨a, xs, rfl, hq, ha, _⟩ := lst3_low r1 p1 hds
      refine ⟨a, xs, rfl, hq, ?_, binds_low r1 T.slots T ds xs σ env env2 (fun _ h => h) (en.mono e1) ha hb _ fun σ' en' _ => q.nx w1 σ' H1 env2 S1 e1 r1 en' t1⟩
      rw [DpAll.length ha]
      exact binds_len (K := X.K) (w := w1) (H := H1) (S := S1) T ds env env2 hb
  · exact t1.elim
theorem qe_lkK (i : Nat) (h : QE X e te) : QE X e (tLkK3 i te) := L2.PE.imp (pe_lock h) fun σ H R ⟨w, env, S, Q, r, en, t, q⟩ => by
  unfold tLkK3 at t
  split at t
  · rename_i n hn
    split at t
    · rename_i kvs hs
      obtain ⟨v, hv, a, ha, rfl⟩ := en.2 i _ hn
      obtain ⟨_, u, hu, kxs, rfl, hp⟩ := r.live n a _ ha hs
      refine ⟨a, .dK kxs, hu, trivial, fun od => ?_⟩
      have r1 : Rel3 X.K w (upd H a (.frz od (.dK kxs))) (S.set n (some (.dkf od kxs kvs))) := r.put ha hs ⟨rfl, hp⟩
      refine ⟨w, env, _, _, r1, en, t od kxs, fun w1 v d H1 S1 e1 r2 p1 t1 => ?_⟩
      obtain ⟨hs1, t1⟩ := t1
      obtain ⟨_, u1, hu1, rfl, hp1⟩ := r2.live n a _ (e1.get ha) hs1
      refine ⟨hu1, ?_⟩
      have r3 : Rel3 X.K w1 (upd H1 a (.dK kxs)) (S1.set n (some (.dik kvs))) := r2.put (e1.get ha) hs1 ⟨kxs, rfl, hp1⟩
      exact q w1 v d _ _ e1 r3 p1 t1
    · exact t.elim
  · exact t.elim
theorem qs_lkS {st : Stmt} {u : TS3} (i : Nat) (h : QS X st u) : QS X st (tLkS3 i u) := L2.PS.imp (ps_lock h) fun D σ H ⟨w, env, S, D3, r, en, t, q⟩ => by
  unfold tLkS3 at t
  split at t
  · rename_i n hn
    split at t
    · rename_i kvs hs
      obtain ⟨v, hv, a, ha, rfl⟩ := en.2 i _ hn
      obtain ⟨_, u, hu, kxs, rfl, hp⟩ := r.live n a _ ha hs
      refine ⟨a, .dK kxs, hu, trivial, fun od => ?_⟩
      have r1 : Rel3 X.K w (upd H a (.frz od (.dK kxs))) (S.set n (some (.dkf od kxs kvs))) := r.put ha hs ⟨rfl, hp⟩
      have back : ∀ (w1 : W3) (H1 : Hp) (S1 : S3), Ex3 w w1 → Rel3 X.K w1 H1 S1 → S1[n]? = some (some (.dkf od kxs kvs)) → H1 a = some (.frz od (.dK kxs)) ∧ Rel3 X.K w1 (upd H1 a (.dK kxs)) (S1.set n (some (.dik kvs))) := fun w1 H1 S1 e1 r2 hs1 => by
        obtain ⟨_, u1, hu1, rfl, hp1⟩ := r2.live n a _ (e1.get ha) hs1
        exact ⟨hu1, r2.put (e1.get ha) hs1 ⟨kxs, rfl, hp1⟩⟩
      refine ⟨w, env, _, _, r1, en, t od kxs, ?_⟩
      refine ⟨fun w1 σ1 H1 env1 S1 e1 r2 en1 t1 => ?_, fun w1 v d H1 S1 e1 r2 p1 t1 => ?_, fun w1 σ1 H1 env1 S1 e1 r2 en1 t1 => ?_, fun w1 σ1 H1 env1 S1 e1 r2 en1 t1 => ?_⟩
      · obtain ⟨h1, h2⟩ := back w1 H1 S1 e1 r2 t1.1
        exact ⟨h1, q.nx w1 _ _ _ _ e1 h2 en1 t1.2⟩
      · obtain ⟨h1, h2⟩ := back w1 H1 S1 e1 r2 t1.1
        exact ⟨h1, q.rt w1 _ _ _ _ e1 h2 p1 t1.2⟩
      · obtain ⟨h1, h2⟩ := back w1 H1 S1 e1 r2 t1.1
        exact ⟨h1, q.bk w1 _ _ _ _ e1 h2 en1 t1.2⟩
      · obtain ⟨h1, h2⟩ := back w1 H1 S1 e1 r2 t1.1
        exact ⟨h1, q.ct w1 _ _ _ _ e1 h2 en1 t1.2⟩
    · exact t.elim
  · exact t.elim
theorem dp_keyP {K : PySem.W.Frag} {H : Hp} : ∀ k : Key, Dp K H (kV k) (keyP k)
  | .inl i => .int i
  | .inr x => .str x
theorem itr_keysK {K : PySem.W.Frag} {w : W3} {a : Addr} {n : Nat} {od : Obj} {kxs : List (Key × V)} {kvs : List (Key × D)} (ha : w.al[n]? = some a) :
    ItR K w (Itk a od kxs) (kvs.map fun p => keyP p.1) fun S => S[n]? = some (some (.dkf od kxs kvs)) := fun w' H S e r hs => by
  obtain ⟨_, u, hu, rfl, hp⟩ := r.live n a _ (e.get ha) hs
  have hl : kxs.length = kvs.length := Paired.length hp
  refine ⟨fun i hi => ⟨hu, by rw [List.length_map] at hi; omega⟩, fun i x hx => ?_⟩
  rw [List.getElem?_map] at hx
  obtain ⟨p, hpi, rfl⟩ := Option.map_eq_some_iff.mp hx
  have hil := (List.getElem?_eq_some_iff.mp hpi).1
  refine ⟨⟨hu, by omega⟩, fun u H' y => ?_⟩
  obtain ⟨rfl, k, v, h1, rfl⟩ := y
  have hk : k = p.1 := (pairT_get hp h1 hpi).1
  subst hk
  exact ⟨w', Ex3.refl w', r, dp_keyP p.1⟩
theorem qi_keysK (he : QE X e te) : QI X tg e (tKeysK3 te) := (pi_keys he).imp fun σ H R ⟨w, env, S, Q, r0, en, t, q⟩ => by
  have hz : sizeLine = 16777216 := sizeLine_eq
  refine ⟨w, env, S, _, r0, en, t, fun w1 v d H1 S1 e1 r1 p1 t1 => ?_⟩
  split at t1
  · rename_i n
    split at t1
    · rename_i od kxs kvs hs
      obtain ⟨a, ha, rfl⟩ := p1
      obtain ⟨_, u, hu, rfl, hp⟩ := r1.live n a _ ha hs
      exact ⟨a, od, rfl, .inl ⟨kxs, hu, q w1 _ H1 S1 _ _ e1 r1 (itr_keysK ha) (by rw [List.length_map]; omega) t1.2⟩⟩
    · exact t1.elim
  · exact t1.elim
theorem qe_dgetF (hu : X.A.units + 64 < cLine) (ho : QE X o to) (hi : QE X i ti) (hs : NoSl i) : QE X (.Subscript o i pos) (tDGetF3 to ti) := L2.PE.imp (pe_dget (by omega) ho hi hs) fun σ H R ⟨w, env, S, Q, r0, en, t, q⟩ => by
  refine ⟨w, env, S, _, r0, en, t, fun w1 v d H1 S1 e1 r1 p1 t1 => ?_⟩
  refine ⟨w1, env, S1, _, r1, en.mono e1, t1, fun w2 u c H2 S2 e2 r2 p2 t2 => ?_⟩
  split at t2
  · rename_i kvs dd ho'
    split at t2
    · rename_i k hk
      split at t2
      · rename_i x hx
        unfold dkf3 at ho'
        split at ho'
        · rename_i n
          split at ho'
          · rename_i od kxs kvs' hs'
            cases ho'
            obtain ⟨a, ha, rfl⟩ := p1.mono e2
            obtain ⟨_, u', hu', rfl, hp⟩ := r2.live n a _ ha hs'
            have hy := key3_low p2 hk
            subst hy
            rcases pv_val (k := k) hp with ⟨h1, _⟩ | ⟨d', v', h1, h2, h3⟩
            · rw [hx] at h1; cases h1
            · rw [hx] at h1
              cases h1
              refine ⟨a, v', rfl, ?_, (q.mono (e1.trans e2)).old (d := x) r2 h3 t2⟩
              rw [← h2]
              exact .inl ⟨kxs, k, .inr ⟨od, hu'⟩, rfl, rfl⟩
          · cases ho'
        · cases ho'
      · exact t2.elim
    · exact t2.elim
  · exact t2.elim
end
end L3

namespace L3
open PySem PySem.Spec PyProof.Rows L2
/-! OD: own dicts of tuple keys: locked through a statement (for k in d: ..), read where they are locked. -/
/-- the own dict in slot i is locked within a statement -/
def tLkT3 (i : Nat) (u : TS3) : TS3 := fun D env S => match at3 env i with
  | some (.loc n) => (match S[n]? with
    | some (some (.dic kvs)) => ∀ od kxs, u { nx := fun e' S' => S'[n]? = some (some (.dif od kxs kvs)) ∧ D.nx e' (S'.set n (some (.dic kvs))), rt := fun v S' => S'[n]? = some (some (.dif od kxs kvs)) ∧ D.rt v (S'.set n (some (.dic kvs))), bk := fun e' S' => S'[n]? = some (some (.dif od kxs kvs)) ∧ D.bk e' (S'.set n (some (.dic kvs))), ct := fun e' S' => S'[n]? = some (some (.dif od kxs kvs)) ∧ D.ct e' (S'.set n (some (.dic kvs))) } env (S.set n (some (.dif od kxs kvs)))
    | _ => False)
  | _ => False
/-- the entries of an own dict of tuple keys, locked or not -/
def dia3 (S : S3) : D → Option (List (List Key × PyData))
  | .loc n => match S[n]? with
    | some (some (.dic kvs)) => some kvs
    | some (some (.dif _ _ kvs)) => some kvs
    | _ => none
  | _ => none
/-- d[k], d locked or not -/
def tTGetA3 (to ti : TE3) : TE3 := fun env S Q => to env S fun o S1 => ti env S1 fun i S2 => match dia3 S2 o with
  | some kvs => (match keyT i with
    | some k => (match valE kvs k with
      | some v => Q (.p v) S2
      | none => False)
    | none => False)
  | none => False
section
variable {X : Cx} {o i : Expr} {to ti : TE3} {pos : Pos}
theorem dia3_low {K : PySem.W.Frag} {w : W3} {H : Hp} {S : S3} {v : V} {d : D} {kvs : List (List Key × PyData)} (r : Rel3 K w H S) (p : RepD K w v d) (h : dia3 S d = some kvs) :
    ∃ a kxs, v = .ref a ∧ (H a = some (.dT kxs) ∨ ∃ od, H a = some (.frz od (.dT kxs))) ∧ Paired (KtR K w.h) kxs kvs := by
  unfold dia3 at h
  split at h
  · split at h
    · rename_i es hs
      cases h
      obtain ⟨a, ha, rfl⟩ := p
      obtain ⟨_, u, hu, kxs, rfl, hp⟩ := r.live _ a _ ha hs
      exact ⟨a, kxs, rfl, .inl hu, hp⟩
    · rename_i od kxs es hs
      cases h
      obtain ⟨a, ha, rfl⟩ := p
      obtain ⟨_, u, hu, rfl, hp⟩ := r.live _ a _ ha hs
      exact ⟨a, kxs, rfl, .inr ⟨od, hu⟩, hp⟩
    · cases h
  · cases h
theorem qe_tgetA (hK : NoTK X.K) (hu : X.A.units + 64 < cLine) (ho : QE X o to) (hi : QE X i ti) (hs : NoSl i) : QE X (.Subscript o i pos) (tTGetA3 to ti) := L2.PE.imp (pe_dget (by omega) ho hi hs) fun σ H R ⟨w, env, S, Q, r0, en, t, q⟩ => by
  refine ⟨w, env, S, _, r0, en, t, fun w1 v d H1 S1 e1 r1 p1 t1 => ?_⟩
  refine ⟨w1, env, S1, _, r1, en.mono e1, t1, fun w2 u c H2 S2 e2 r2 p2 t2 => ?_⟩
  split at t2
  · rename_i kvs ho'
    split at t2
    · rename_i k hk
      split at t2
      · rename_i x hx
        obtain ⟨a, kxs, rfl, hH, hp⟩ := dia3_low r2 (p1.mono e2) ho'
        obtain ⟨b, rfl, hb⟩ := keyT_low hK r2 p2 hk
        rcases pt_val (k := k) hp with ⟨h1, _⟩ | ⟨d', v', h1, h2, h3⟩
        · rw [hx] at h1; cases h1
        · rw [hx] at h1
          cases h1
          refine ⟨a, v', rfl, ?_, (q.mono (e1.trans e2)).old (d := .p x) r2 h3 t2⟩
          rw [← h2]
          exact .inr ⟨kxs, k, b, hH, rfl, hb, rfl⟩
      · exact t2.elim
    · exact t2.elim
  · exact t2.elim
theorem qs_lkT {st : Stmt} {u : TS3} (i : Nat) (h : QS X st u) : QS X st (tLkT3 i u) := L2.PS.imp (ps_lock h) fun D σ H ⟨w, env, S, D3, r, en, t, q⟩ => by
  unfold tLkT3 at t
  split at t
  · rename_i n hn
    split at t
    · rename_i kvs hs
      obtain ⟨v, hv, a, ha, rfl⟩ := en.2 i _ hn
      obtain ⟨_, u, hu, kxs, rfl, hp⟩ := r.live n a _ ha hs
      refine ⟨a, .dT kxs, hu, trivial, fun od => ?_⟩
      have r1 : Rel3 X.K w (upd H a (.frz od (.dT kxs))) (S.set n (some (.dif od kxs kvs))) := r.put ha hs ⟨rfl, hp⟩
      have back : ∀ (w1 : W3) (H1 : Hp) (S1 : S3), Ex3 w w1 → Rel3 X.K w1 H1 S1 → S1[n]? = some (some (.dif od kxs kvs)) → H1 a = some (.frz od (.dT kxs)) ∧ Rel3 X.K w1 (upd H1 a (.dT kxs)) (S1.set n (some (.dic kvs))) := fun w1 H1 S1 e1 r2 hs1 => by
        obtain ⟨_, u1, hu1, rfl, hp1⟩ := r2.live n a _ (e1.get ha) hs1
        exact ⟨hu1, r2.put (e1.get ha) hs1 ⟨kxs, rfl, hp1⟩⟩
      refine ⟨w, env, _, _, r1, en, t od kxs, ?_⟩
      refine ⟨fun w1 σ1 H1 env1 S1 e1 r2 en1 t1 => ?_, fun w1 v d H1 S1 e1 r2 p1 t1 => ?_, fun w1 σ1 H1 env1 S1 e1 r2 en1 t1 => ?_, fun w1 σ1 H1 env1 S1 e1 r2 en1 t1 => ?_⟩
      · obtain ⟨h1, h2⟩ := back w1 H1 S1 e1 r2 t1.1
        exact ⟨h1, q.nx w1 _ _ _ _ e1 h2 en1 t1.2⟩
      · obtain ⟨h1, h2⟩ := back w1 H1 S1 e1 r2 t1.1
        exact ⟨h1, q.rt w1 _ _ _ _ e1 h2 p1 t1.2⟩
      · obtain ⟨h1, h2⟩ := back w1 H1 S1 e1 r2 t1.1
        exact ⟨h1, q.bk w1 _ _ _ _ e1 h2 en1 t1.2⟩
      · obtain ⟨h1, h2⟩ := back w1 H1 S1 e1 r2 t1.1
        exact ⟨h1, q.ct w1 _ _ _ _ e1 h2 en1 t1.2⟩
    · exact t.elim
  · exact t.elim
end
end L3

/-! OF: sets of any number of tuples of ints below 1228: the round of slots for the greater tables. -/
namespace BigS
open PySem PySem.Spec PyProof.Rows L2
/-- the tables that come with up to 1228 elements -/
def Mk (m : Nat) : Prop := m = 7 ∨ m = 31 ∨ m = 127 ∨ m = 511 ∨ m = 2047
/-- f steps from x, each slot marked once, back to 0 at the end -/
def goes (m : Nat) : Nat → Nat → Nat → Bool
  | 0, x, mk => x == 0
  | f + 1, x, mk => !(mk.testBit x) && decide (x ≤ m) && goes m f ((x * 5 + 1) % (m + 1)) (mk ||| (2 ^ x))
def goesB (m : Nat) : Bool := goes m (m + 1) 0 0
theorem goes_7 : goesB 7 = true := by decide +kernel
theorem goes_31 : goesB 31 = true := by decide +kernel
theorem goes_127 : goesB 127 = true := by decide +kernel
theorem goes_511 : goesB 511 = true := by decide +kernel
theorem goes_2047 : goesB 2047 = true := by decide +kernel
theorem Mk.goes {m : Nat} (h : Mk m) : goesB m = true := by
  rcases h with rfl | rfl | rfl | rfl | rfl
  · exact goes_7
  · exact goes_31
  · exact goes_127
  · exact goes_511
  · exact goes_2047
theorem Mk.top {m : Nat} (h : Mk m) : m ≤ 2047 ∧ m % 2 = 1 ∧ 7 ≤ m := by
  rcases h with rfl | rfl | rfl | rfl | rfl <;> decide
theorem goes_spec {m : Nat} : ∀ (f x mk : Nat), goes m f x mk = true →
    lcgI m x f = 0 ∧ (∀ k, k < f → mk.testBit (lcgI m x k) = false ∧ lcgI m x k ≤ m) ∧ ∀ a b, a < b → b < f → lcgI m x a ≠ lcgI m x b
  | 0, x, mk, h => by
    refine ⟨?_, fun k hk => absurd hk (Nat.not_lt_zero _), fun a b _ hb => absurd hb (Nat.not_lt_zero _)⟩
    unfold goes at h
    exact beq_iff_eq.mp h
  | f + 1, x, mk, h => by
    unfold goes at h
    rw [Bool.and_eq_true, Bool.and_eq_true, Bool.not_eq_true', decide_eq_true_eq] at h
    obtain ⟨⟨h1, h2⟩, h3⟩ := h
    obtain ⟨i1, i2, i3⟩ := goes_spec f _ _ h3
    have sh : ∀ k, lcgI m ((x * 5 + 1) % (m + 1)) k = lcgI m x (k + 1) := fun k => by
      induction k with
      | zero => rfl
      | succ k ih =>
        show (lcgI m ((x * 5 + 1) % (m + 1)) k * 5 + 1) % (m + 1) = (lcgI m x (k + 1) * 5 + 1) % (m + 1)
        rw [ih]
    have bit : ∀ y, (mk ||| 2 ^ x).testBit y = (mk.testBit y || decide (x = y)) := fun y => by
      rw [Nat.testBit_or, Nat.testBit_two_pow]
    have nx : ∀ k, k < f → mk.testBit (lcgI m x (k + 1)) = false ∧ x ≠ lcgI m x (k + 1) ∧ lcgI m x (k + 1) ≤ m := fun k hk => by
      have q := i2 k hk
      rw [sh, bit, Bool.or_eq_false_iff, decide_eq_false_iff_not] at q
      exact ⟨q.1.1, q.1.2, q.2⟩
    refine ⟨by rw [← sh]; exact i1, fun k hk => ?_, fun a b hab hb => ?_⟩
    · cases k with
      | zero => exact ⟨h1, h2⟩
      | succ k => have q := nx k (by omega); exact ⟨q.1, q.2.2⟩
    · obtain ⟨b, rfl⟩ : ∃ c, b = c + 1 := ⟨b - 1, by omega⟩
      cases a with
      | zero => exact (nx b (by omega)).2.1
      | succ a =>
        have q := i3 a b (by omega) (by omega)
        rw [sh, sh] at q
        exact q
theorem lcgI_zero (m : Nat) : ∀ k, lcgI m 0 k = lcgN m k
  | 0 => rfl
  | k + 1 => by
    show (lcgI m 0 k * 5 + 1) % (m + 1) = (lcgN m k * 5 + 1) % (m + 1)
    rw [lcgI_zero m k]
/-- each slot stands in the round from nought -/
theorem hit0 {m : Nat} (hm : Mk m) {j : Nat} (hj : j ≤ m) : ∃ b, b ≤ m ∧ lcgN m b = j := by
  obtain ⟨_, g2, g3⟩ := goes_spec (m + 1) 0 0 hm.goes
  refine Classical.byContradiction fun no => ?_
  have nd : (j :: (List.range (m + 1)).map fun b => lcgN m b).Nodup := by
    refine List.nodup_cons.mpr ⟨fun z => ?_, ?_⟩
    · obtain ⟨b, hb, e⟩ := List.mem_map.mp z
      exact no ⟨b, Nat.le_of_lt_succ (List.mem_range.mp hb), e⟩
    · unfold List.Nodup
      rw [List.pairwise_map]
      refine List.pairwise_lt_range.imp_of_mem fun {a b} ha hb hab => ?_
      have q := g3 a b hab (List.mem_range.mp hb)
      rw [lcgI_zero, lcgI_zero] at q
      exact q
  have hs := nat_nodup_len _ (List.range (m + 1)) nd fun x hx => by
    rcases List.mem_cons.mp hx with rfl | hx
    · exact List.mem_range.mpr (by omega)
    · obtain ⟨b, hb, rfl⟩ := List.mem_map.mp hx
      have q := (g2 b (List.mem_range.mp hb)).2
      rw [lcgI_zero] at q
      exact List.mem_range.mpr (by omega)
  rw [List.length_cons, List.length_map, List.length_range] at hs
  omega
theorem turn0 {m : Nat} (hm : Mk m) : lcgN m (m + 1) = 0 := by
  rw [← lcgI_zero]
  exact (goes_spec (m + 1) 0 0 hm.goes).1
theorem turnK {m : Nat} (hm : Mk m) : ∀ k, lcgN m (m + 1 + k) = lcgN m k
  | 0 => turn0 hm
  | k + 1 => congrArg (fun y => (y * 5 + 1) % (m + 1)) (turnK hm k)
/-- .. and in the round from any slot -/
theorem hitI {m : Nat} (hm : Mk m) {i j : Nat} (hi : i ≤ m) (hj : j ≤ m) : ∃ k, k ≤ m ∧ lcgI m i k = j := by
  obtain ⟨a, a1, rfl⟩ := hit0 hm hi
  obtain ⟨b, b1, rfl⟩ := hit0 hm hj
  by_cases c : a ≤ b
  · exact ⟨b - a, by omega, by rw [lcgN_add]; congr 1; omega⟩
  · refine ⟨b + (m + 1) - a, by omega, ?_⟩
    rw [lcgN_add, show a + (b + (m + 1) - a) = m + 1 + b by omega, turnK hm]
/-- each slot begins a run early -/
theorem runs {m : Nat} (hm : Mk m) (h : Int) {j : Nat} (hj : j ≤ m) : ∃ n, n ≤ m + 12 ∧ runI m (SetTable.bits h) n = j := by
  obtain ⟨k, hk, e⟩ := hitI hm (runI_le m (SetTable.bits h) 12) hj
  refine ⟨12 + k, by omega, ?_⟩
  rw [runI_tail (bits_lt h), e]
theorem meets {m : Nat} (hm : Mk m) (h : Int) {j : Nat} (hj : j ≤ m) : ∃ k, k < 10 * SetTable.turns m ∧ way m h k = j := by
  obtain ⟨n, hn, e⟩ := runs hm h hj
  obtain ⟨k, hk, e2⟩ := run_nth m (SetTable.bits h) n
  exact ⟨k, by unfold SetTable.turns; omega, (congrArg SetTable.Probe.j e2).trans e⟩
theorem way_in (m : Nat) (h : Int) (k : Nat) : way m h k ≤ m := by
  have hi : SetTable.bits h % (m + 1) ≤ m := Nat.le_of_lt_succ (Nat.mod_lt _ (Nat.succ_pos m))
  have b := runEnd_bd hi
  have q := nth_in k (runAt m (SetTable.bits h % (m + 1)) (SetTable.bits h)) (m := m) (by unfold runAt; dsimp only; omega)
  exact Nat.le_trans (Nat.le_add_right _ _) q
end BigS

namespace BigS
open PySem PySem.Spec PyProof.Rows L2
/-- a table without dummies in which every hash leads to its slot -/
structure Tb (t : SetTable) (hs : List Int) : Prop where
  up : Ris t.place.toList
  nodum : t.dummies = #[]
  many : t.place.size = hs.length
  msk : Mk t.mask
  within : ∀ x ∈ t.place.toList, x ≤ t.mask
  leads : ∀ (i : Nat) (h : Int) (j : Nat), hs[i]? = some h → t.place.toList[i]? = some j → ∃ k, way t.mask h k = j ∧ ∀ k', k' < k → way t.mask h k' ∈ t.place.toList
variable {t : SetTable} {hs : List Int}
theorem Tb.len (T : Tb t hs) : t.place.toList.length = hs.length := by rw [Array.length_toList, T.many]
/-- the way of a hash comes to a slot that is free -/
theorem Tb.open_ (T : Tb t hs) (hl : hs.length ≤ t.mask) (h : Int) : ∃ K, K < 10 * SetTable.turns t.mask ∧ way t.mask h K ∉ t.place.toList ∧ ∀ k, k < K → way t.mask h k ∈ t.place.toList := by
  obtain ⟨j, j1, j2⟩ := st_missing t.place.toList (t.mask + 1) (by rw [T.len]; omega)
  obtain ⟨k, k1, rfl⟩ := meets T.msk h (Nat.le_of_lt_succ j1)
  obtain ⟨K, K1, K2, K3⟩ := st_least (p := fun k => way t.mask h k ∉ t.place.toList) k j2
  exact ⟨K, Nat.lt_of_le_of_lt K1 k1, K2, fun q hq => Classical.byContradiction fun z => K3 q hq z⟩
theorem Tb.ahead (T : Tb t hs) {h : Int} {K i j : Nat} (hK : way t.mask h K ∉ t.place.toList) (hi : hs[i]? = some h) (hj : t.place.toList[i]? = some j) : ∃ k, k < K ∧ way t.mask h k = j := by
  obtain ⟨k, rfl, hb⟩ := T.leads i h j hi hj
  refine ⟨k, ?_, rfl⟩
  rcases Nat.lt_trichotomy k K with c | rfl | c
  · exact c
  · exact absurd (List.mem_of_getElem? hj) hK
  · exact absurd (hb K c) hK
theorem Tb.slots (T : Tb t hs) {i : Nat} (hi : i < hs.length) : ∃ j, t.place.toList[i]? = some j :=
  ⟨_, List.getElem?_eq_getElem (by rw [T.len]; exact hi)⟩
/-- a slot more -/
theorem Tb.more (T : Tb t hs) {h : Int} {K : Nat} (hK : way t.mask h K ∉ t.place.toList) (hb : ∀ k, k < K → way t.mask h k ∈ t.place.toList) :
    ∃ p, (t.put (way t.mask h K)).2 = p ∧ p = SetTable.below t.place (way t.mask h K) ∧ p ≤ hs.length ∧ Tb (t.put (way t.mask h K)).1 (hs.take p ++ h :: hs.drop p) ∧ (t.put (way t.mask h K)).1.mask = t.mask ∧ (t.put (way t.mask h K)).1.led = t.led ∧
      (t.put (way t.mask h K)).1.plain = t.plain ∧ (t.put (way t.mask h K)).1.fill = hs.length + 1 := by
  have hm := way_in t.mask h K
  obtain ⟨c1, _, _⟩ := below_cut T.up (way t.mask h K)
  have hpl := put_place t (way t.mask h K)
  have hfree : t.place[SetTable.below t.place (way t.mask h K)]? ≠ some (way t.mask h K) := fun e => hK (List.mem_of_getElem? (by rw [Array.getElem?_toList]; exact e))
  have hris := ris_insert T.up hfree
  have hdum := put_dm T.nodum (way t.mask h K)
  have c2 : SetTable.below t.place (way t.mask h K) ≤ t.place.toList.length := by rw [Array.length_toList]; exact c1
  have c3 : SetTable.below t.place (way t.mask h K) ≤ hs.length := by rw [← T.len]; exact c2
  have hsz : (t.put (way t.mask h K)).1.place.size = hs.length + 1 := by rw [← Array.length_toList, hpl, len_ins _ c2, T.len]
  have stay : ∀ {x : Nat}, x ∈ t.place.toList → x ∈ (t.put (way t.mask h K)).1.place.toList := fun hx => by rw [hpl]; exact mem_ins.2 (Or.inr hx)
  refine ⟨SetTable.below t.place (way t.mask h K), rfl, rfl, c3, ?_, rfl, rfl, rfl, ?_⟩
  · refine { up := hris, nodum := hdum, many := by rw [len_ins _ c3]; exact hsz, msk := T.msk, within := fun x hx => ?_, leads := fun i g j h1 h2 => ?_ }
    · rw [hpl] at hx
      exact (mem_ins.1 hx).elim (fun e => by rw [e]; exact hm) fun e => T.within x e
    · rw [tins_get hs c3] at h1
      rw [hpl, tins_get _ c2] at h2
      have old : ∀ i', hs[i']? = some g → t.place.toList[i']? = some j → ∃ k, way t.mask g k = j ∧ ∀ k', k' < k → way t.mask g k' ∈ (t.put (way t.mask h K)).1.place.toList := fun i' a b => by
        obtain ⟨k, e, z⟩ := T.leads i' g j a b
        exact ⟨k, e, fun k' hk' => stay (z k' hk')⟩
      rcases Nat.lt_trichotomy i (SetTable.below t.place (way t.mask h K)) with d | d | d
      · rw [if_pos d] at h1 h2
        exact old i h1 h2
      · rw [if_neg (by omega), if_pos d] at h1 h2
        cases h1
        cases h2
        exact ⟨K, rfl, fun k' hk' => stay (hb k' hk')⟩
      · rw [if_neg (by omega), if_neg (by omega)] at h1 h2
        exact old _ h1 h2
  · show (t.put (way t.mask h K)).1.place.size + (t.put (way t.mask h K)).1.dummies.size = _
    rw [hsz, hdum]
    rfl
/-! ### all laid anew -/
/-- the first free slot on a hash's way is the one that is found -/
theorem found {m : Nat} (hm : Mk m) (owner : Array (Option Nat)) (h : Int) {j : Nat} (hj : j ≤ m) (hf : oAt owner j = none) :
    ∃ K, SetTable.layClean.free m owner (SetTable.turns m) (SetTable.bits h % (m + 1)) (SetTable.bits h) = some (way m h K) ∧ oAt owner (way m h K) = none ∧ ∀ k, k < K → oAt owner (way m h k) ≠ none := by
  obtain ⟨n, hn, e⟩ := runs hm h hj
  have hw : way m h (off m (SetTable.bits h % (m + 1)) (SetTable.bits h) n) = j := by
    have q := congrArg SetTable.Probe.j (nth_off m n (SetTable.bits h % (m + 1)) (SetTable.bits h))
    rw [itL_run] at q
    exact q.trans e
  obtain ⟨K, K1, K2, K3⟩ := st_least (p := fun k => oAt owner (way m h k) = none) _ (show oAt owner (way m h _) = none by rw [hw]; exact hf)
  have occ : ∀ x : Option Nat, x ≠ none → x.isNone = false := fun x hx => by cases x with
    | none => exact absurd rfl hx
    | some _ => rfl
  refine ⟨K, free_spec m owner _ n _ _ K (by unfold SetTable.turns; omega) K1 (fun k hk => occ _ (K3 k hk)) ?_, K2, K3⟩
  have q : oAt owner (way m h K) = none := K2
  show (oAt owner (way m h K)).isNone = true
  rw [q]
  rfl
theorem own_next {m : Nat} (hm : Mk m) {done : List Int} {owner : Array (Option Nat)} (W : Own m done owner) (hl : done.length ≤ m) (h : Int) :
    ∃ j, SetTable.layClean.free m owner (SetTable.turns m) (SetTable.bits h % (m + 1)) (SetTable.bits h) = some j ∧ Own m (done ++ [h]) (owner.setIfInBounds j (some done.length)) := by
  obtain ⟨ps, ps1, ps2⟩ := W.ps
  obtain ⟨j0, j1, j2⟩ := st_missing ps (m + 1) (by omega)
  have hj0 : oAt owner j0 = none := Classical.byContradiction fun z => j2 (ps2 j0 (by omega) z)
  obtain ⟨K, e1, e2, e3⟩ := found hm owner h (by omega : j0 ≤ m) hj0
  have hw := way_in m h K
  have here := oAt_set_self (owner := owner) (some done.length) (j := way m h K) (by rw [W.sz]; omega)
  have there : ∀ {i : Nat}, i ≠ way m h K → oAt (owner.setIfInBounds (way m h K) (some done.length)) i = oAt owner i := fun hi => oAt_set_ne _ hi
  have full : ∀ {i : Nat}, oAt owner i ≠ none → oAt (owner.setIfInBounds (way m h K) (some done.length)) i ≠ none := fun {i} hi => by
    rcases Classical.em (i = way m h K) with c | c
    · rw [c, here]; exact nofun
    · rw [there c]; exact hi
  refine ⟨way m h K, e1, { sz := by rw [Array.size_setIfInBounds, W.sz], at_ := fun j k hj e => ?_, all := fun k hk => ?_, ps := ⟨way m h K :: ps, by simp [ps1], fun j hj e => ?_⟩ }⟩
  · rcases Classical.em (j = way m h K) with rfl | c
    · rw [here] at e
      cases e
      exact ⟨h, K, by simp, rfl, fun k' hk' => full (e3 k' hk')⟩
    · rw [there c] at e
      obtain ⟨g, K', a1, a2, a3⟩ := W.at_ j k hj e
      exact ⟨g, K', by rw [List.getElem?_append_left (List.getElem?_eq_some_iff.mp a1).1, a1], a2, fun k' hk' => full (a3 k' hk')⟩
  · rw [List.length_append, List.length_singleton] at hk
    rcases Nat.lt_or_ge k done.length with c | c
    · obtain ⟨j, hj, e⟩ := W.all k c
      have hne : j ≠ way m h K := fun z => by rw [z, e2] at e; cases e
      exact ⟨j, hj, (there hne).trans e⟩
    · exact ⟨way m h K, hw, by rw [here]; congr 1; omega⟩
  · rcases Classical.em (j = way m h K) with rfl | c
    · exact List.mem_cons_self
    · rw [there c] at e
      exact List.mem_cons_of_mem _ (ps2 j hj e)
theorem laid_all {m : Nat} (hm : Mk m) : ∀ (rest done : List Int) (owner : Array (Option Nat)), Own m done owner → done.length + rest.length ≤ m →
    ∃ o', rest.foldl (stepF m) (some (owner, done.length)) = some (o', done.length + rest.length) ∧ Own m (done ++ rest) o'
  | [], done, owner, W, _ => ⟨owner, rfl, by rw [List.append_nil]; exact W⟩
  | h :: rest, done, owner, W, hl => by
    rw [List.length_cons] at hl
    obtain ⟨j, e, W2⟩ := own_next hm W (by omega) h
    obtain ⟨o', f, W3⟩ := laid_all hm rest (done ++ [h]) _ W2 (by simp; omega)
    rw [List.length_append, List.length_singleton] at f
    refine ⟨o', ?_, by rw [List.append_assoc] at W3; exact W3⟩
    rw [List.foldl_cons, stepF_some e, f, List.length_cons]
    congr 2
    omega
theorem laid_ok {m : Nat} (hm : Mk m) {hs : Array Int} (hn : hs.size ≤ m) : ∃ owner, SetTable.layClean m hs = some owner ∧ Own m hs.toList owner := by
  obtain ⟨o', f, W⟩ := laid_all hm hs.toList [] _ (Own.init m) (by simpa using hn)
  rw [List.nil_append] at W
  refine ⟨o', ?_, W⟩
  rw [layClean_eq, show hs.toList.foldl (stepF m) (some (Array.replicate (m + 1) none, 0)) = some (o', ([] : List Int).length + hs.toList.length) from f]
  rfl
end BigS

namespace BigS
open PySem PySem.Spec PyProof.Rows L2
theorem anew (t : SetTable) {hs : Array Int} {wanted M : Nat} (hw : SetTable.sizeAbove wanted - 1 = M) (hM : Mk M) (hn : hs.size ≤ M) :
    ∃ t' order, t.relaid hs wanted = some (t', order) ∧ order.toList.Perm (List.range hs.size) ∧ Tb t' (order.toList.map fun i => hs.getD i 0) ∧ t'.mask = M ∧ t'.led = t.led ∧ t'.plain = t.plain := by
  obtain ⟨owner, e, W⟩ := laid_ok hM hn
  obtain ⟨V, hV⟩ : ∃ V, V = liveOf M owner := ⟨_, rfl⟩
  have mem : ∀ {j k}, (j, k) ∈ V ↔ j ≤ M ∧ oAt owner j = some k := by rw [hV]; exact mem_live W.sz
  have hr : t.relaid hs wanted = some (tabOf t M owner, (V.map (·.2)).toArray) := by
    rw [relaid_eq, hw, e, hV]
    rfl
  have rise : Ris (V.map (·.1)) := by
    rw [hV]
    exact (ris_live (fun j => owner.getD j none) (List.range (M + 1)) (by unfold Ris; exact List.pairwise_lt_range)).1
  have all : ∀ k, k < hs.size → k ∈ V.map (·.2) := fun k hk => by
    obtain ⟨j, a, b⟩ := W.all k (by simpa using hk)
    exact List.mem_map.mpr ⟨(j, k), mem.2 ⟨a, b⟩, rfl⟩
  have long : V.length = hs.size := by
    obtain ⟨ps, p1, p2⟩ := W.ps
    have nd : (V.map fun q : Nat × Nat => q.1).Nodup := List.Pairwise.imp (fun h => Nat.ne_of_lt h) rise
    have a := nat_nodup_len (V.map fun q : Nat × Nat => q.1) ps nd fun x hx => by
      obtain ⟨⟨y, k⟩, hq, rfl⟩ := List.mem_map.mp hx
      obtain ⟨b1, b2⟩ := mem.1 hq
      exact p2 y b1 (by rw [b2]; exact nofun)
    have b := nat_nodup_len (List.range hs.size) (V.map (·.2)) List.nodup_range fun k hk => all k (List.mem_range.mp hk)
    rw [List.length_map, p1] at a
    rw [List.length_map, List.length_range] at b
    have c : hs.toList.length = hs.size := Array.length_toList
    exact Nat.le_antisymm (Nat.le_trans a (Nat.le_of_eq c)) b
  have place : (tabOf t M owner).place.toList = V.map (·.1) := by rw [hV]; rfl
  refine ⟨_, _, hr, perm_range hs.size _ (by simpa using long) all, { up := by rw [place]; exact rise, nodum := rfl, many := ?_, msk := hM, within := fun x hx => ?_, leads := fun i h j h1 h2 => ?_ }, rfl, rfl, rfl⟩
  · rw [← Array.length_toList, place]
    simp
  · rw [place] at hx
    obtain ⟨⟨y, k⟩, hq, rfl⟩ := List.mem_map.mp hx
    exact (mem.1 hq).1
  · rw [place] at h2 ⊢
    have h1 : ((V.map (·.2)).map fun i => hs.getD i 0)[i]? = some h := h1
    rw [List.getElem?_map] at h2
    rw [List.map_map, List.getElem?_map] at h1
    obtain ⟨⟨y, k⟩, hq, rfl⟩ := Option.map_eq_some_iff.mp h2
    rw [hq] at h1
    have h1 : hs.getD k 0 = h := Option.some.inj h1
    obtain ⟨b1, b2⟩ := mem.1 (List.mem_of_getElem? hq)
    obtain ⟨g, K, a1, a2, a3⟩ := W.at_ y k b1 b2
    have hg : g = h := by rw [← h1, Array.getD_eq_getD_getElem?, ← Array.getElem?_toList, a1]; rfl
    subst hg
    refine ⟨K, a2, fun k' hk' => ?_⟩
    show way M g k' ∈ V.map (·.1)
    cases z : oAt owner (way M g k') with
    | none => exact absurd z (a3 k' hk')
    | some q => exact List.mem_map.mpr ⟨(way M g k', q), mem.2 ⟨way_in M g k', z⟩, rfl⟩
/-! ### the sets -/
/-- a set of tuples of ints, fewer than 1228 -/
structure Ts (P : Program) (w : World) (h : Heap) (a : Addr) (L : List (Addr × List Int)) (es : Array (Int × Value)) (ep : Nat) (t : SetTable) : Prop where
  at_ : ∃ o, h.get? a = some o ∧ o.ExactSet ∧ o.data = .set es ep t
  ent : es.toList = rowsOf P w L
  tb : Tb t (L.map fun p => thash P w p.2)
  one : (L.map (·.2)).Nodup
  are : ∀ p ∈ L, IsT P w h p.2 p.1
  pl : t.plain = true
  ld : w.params.followText "set-order" = true ∨ t.led = true
  air : L.length * 5 < t.mask * 3
section
variable {P : Program} {w : World} {A : Around} {E : Value → Shared → Prop} {s : Shared}
variable {a : Addr} {L : List (Addr × List Int)} {es : Array (Int × Value)} {ep : Nat} {t : SetTable}
theorem ent_size (h : es.toList = rowsOf P w L) : es.size = L.length := by
  rw [← Array.length_toList, h]
  unfold rowsOf
  rw [List.length_map]
theorem fits_of (h : es.toList = rowsOf P w L) (h1 : t.place.size = L.length) (h2 : t.dummies = #[]) (h3 : L.length ≤ t.mask) : t.fits es.size = true := by
  have hz := ent_size h
  unfold SetTable.fits SetTable.fill
  rw [h2, Bool.and_eq_true, beq_iff_eq, decide_eq_true_eq]
  exact ⟨by omega, by show t.place.size + 0 ≤ t.mask; omega⟩
theorem Ts.fit (R : Ts P w s.heap a L es ep t) : t.fits es.size = true :=
  fits_of R.ent (by rw [R.tb.many, List.length_map]) R.tb.nodum (by have := R.air; omega)
theorem Ts.get (R : Ts P w s.heap a L es ep t) {i : Nat} {p : Addr × List Int} (h : L[i]? = some p) : es[i]? = some (thash P w p.2, Value.ref p.1) := by
  rw [← Array.getElem?_toList, R.ent]
  unfold rowsOf
  rw [List.getElem?_map, h]
  rfl
theorem Ts.whole (R : Ts P w s.heap a L es ep t) : ¬ t.gaveWay = true := by
  unfold SetTable.gaveWay
  rw [R.tb.msk.top.2.1]
  decide
theorem nth_plain (m : Nat) : ∀ (n : Nat) (p : SetTable.Probe), p.dummy = none → (nth m p n).dummy = none
  | 0, _, h => h
  | n + 1, p, h => nth_plain m n (adv m p) (by unfold adv; split <;> exact h)
end
end BigS

namespace BigS
open PySem PySem.Spec PyProof.Rows L2
section
variable {P : Program} {w : World} {A : Around} {E : Value → Shared → Prop} {s : Shared}
variable {a : Addr} {L : List (Addr × List Int)} {es : Array (Int × Value)} {ep : Nat} {t : SetTable}
/-- where the way of a hash stands behind q steps -/
abbrev at_ (m : Nat) (h : Int) (q : Nat) : SetTable.Probe := nth m (runAt m (SetTable.bits h % (m + 1)) (SetTable.bits h)) q
theorem at_on (m : Nat) (h : Int) (c q : Nat) : nth m (at_ m h c) q = at_ m h (c + q) := (nth_add m c _ q).symm
/-- a search from the c-th step on -/
theorem seek (R : Ts P w s.heap a L es ep t) {x : Addr} {k : List Int} (hx : IsT P w s.heap k x) (hu : A.units < cLine) {K : Nat} (K1 : K < 10 * SetTable.turns t.mask) (K2 : way t.mask (thash P w k) K ∉ t.place.toList)
    (K3 : ∀ c, c < K → way t.mask (thash P w k) c ∈ t.place.toList) {Q : SetFound → Shared → Prop} (yes : k ∈ L.map (·.2) → Q (.there none) s) (no : k ∉ L.map (·.2) → Q (.free (way t.mask (thash P w k) K) false) s) :
    ∀ (f c : Nat) (stand : Option SetTable.Probe), stand.getD (t.probeStart (thash P w k)) = at_ t.mask (thash P w k) c → c ≤ K → K < f + c →
      (∀ (i : Nat) p, L[i]? = some p → p.2 = k → ∃ d, c ≤ d ∧ d < K ∧ t.place.toList[i]? = some (way t.mask (thash P w k) d)) → wpAny (model P w) A (setSearchFrom a (.ref x) (thash P w k) true f stand) Q E s
  | 0, c, stand, _, h1, h2, _ => absurd h2 (by omega)
  | f + 1, c, stand, h0, h1, h2, h3 => by
    obtain ⟨o, ho, hex, hd⟩ := R.at_
    have hash : ∀ (i : Nat) p, L[i]? = some p → ((fun i => (es[i]?.map (·.1)).getD 0) : Nat → Int) i = thash P w p.2 := fun i p hp => by
      show (es[i]?.map (·.1)).getD 0 = _
      rw [R.get hp]
      rfl
    have pos : ∀ q, (nth t.mask (at_ t.mask (thash P w k) c) q).j = way t.mask (thash P w k) (c + q) := fun q => congrArg SetTable.Probe.j (at_on t.mask _ c q)
    have G := go_spec t R.tb.up R.tb.nodum (fun i => (es[i]?.map (·.1)).getD 0) (thash P w k) (10 * SetTable.turns t.mask) (K - c) (at_ t.mask (thash P w k) c) (nth_plain t.mask c _ rfl) (by omega)
      (fun q hq => by rw [pos]; exact K3 _ (by omega)) (by rw [pos, show c + (K - c) = K by omega]; exact K2)
    rw [setSearchFrom_succ]
    refine wpAny_bind (wpAny_setState_of ho hd R.fit ?_)
    dsimp only
    refine wp_if_neg R.whole ?_
    try refine wpAny_bind (wpAny_pure ?_)
    rcases G with ⟨q, i, q1, q2, q3, q4, q5⟩ | ⟨q4, q5⟩
    · have hit : t.probe (fun i => (es[i]?.map (·.1)).getD 0) (thash P w k) (stand.getD (t.probeStart (thash P w k))) = some (.candidate (way t.mask (thash P w k) (c + q)) i (at_ t.mask (thash P w k) (c + (q + 1)))) := by
        rw [h0, ← pos, ← at_on]
        exact q5
      rw [pos] at q2
      rw [hit]
      dsimp only
      have il : i < L.length := by
        have z := (List.getElem?_eq_some_iff.mp q2).1
        rw [R.tb.len, List.length_map] at z
        exact z
      obtain ⟨p, hp⟩ : ∃ p, L[i]? = some p := ⟨_, List.getElem?_eq_getElem il⟩
      have pm := List.mem_of_getElem? hp
      have live : t.slot (way t.mask (thash P w k) (c + q)) = .live i := slot_live R.tb.up q2
      have on : wpAny (model P w) A (searchRest a (.ref x) (thash P w k) true f es t (way t.mask (thash P w k) (c + q)) i (at_ t.mask (thash P w k) (c + (q + 1)))) Q E s := by
        unfold searchRest
        rw [R.get hp]
        dsimp only
        refine wpAny_bind (wpAny_holding (wpAny_eqBool_tuple hu (R.are p pm) hx ?_))
        refine wpAny_bind (wpAny_setState_of ho hd R.fit ?_)
        dsimp only
        rcases Classical.em (p.2 = k) with e | e
        · refine wp_if_pos (by simp [e]) ?_
          exact wpAny_pure (yes (List.mem_map.mpr ⟨p, pm, e⟩))
        · refine wp_if_neg (by simp [e]) ?_
          try refine wpAny_bind (wpAny_pure ?_)
          rw [sameMem]
          dsimp only
          simp only [if_true, live, R.get hp]
          refine wpAny_bind (wpAny_isSame_ref_self (wpAny_bind (wpAny_pure ?_)))
          simp only [if_true]
          refine wp_if_neg (by simp [e]) ?_
          refine seek R hx hu K1 K2 K3 yes no f (c + (q + 1)) _ rfl (by omega) (by omega) fun i' p' z1 z2 => ?_
          obtain ⟨d, d1, d2, d3⟩ := h3 i' p' z1 z2
          refine ⟨d, ?_, d2, d3⟩
          refine Classical.byContradiction fun lt => ?_
          rcases Nat.lt_or_ge d (c + q) with y | y
          · refine q4 (d - c) i' (by omega) (by rw [pos, show c + (d - c) = d by omega]; exact d3) ?_
            exact (hash i' p' z1).trans (by rw [z2])
          · have dd : d = c + q := by omega
            subst dd
            have l2 := slot_live R.tb.up d3
            rw [live] at l2
            cases l2
            rw [hp] at z1
            cases z1
            exact e z2
      rcases Classical.em (t.led = true) with l | l
      · refine wp_if_neg (by simp [l]) ?_
        try refine wpAny_bind (wpAny_pure ?_)
        exact on
      · refine wp_if_pos (by simp [l]) ?_
        refine wpAny_bind (seen_tup hx (fun y hy => ?_) ?_)
        · obtain ⟨e, he, rfl⟩ := List.mem_map.mp hy
          have he : e ∈ es.toList := by
            have : e ∈ es ∧ e.1 = thash P w k := by simpa using he
            simpa using this.1
          rw [R.ent] at he
          obtain ⟨p', hp', rfl⟩ := List.mem_map.mp he
          exact ⟨p'.2, p'.1, rfl, R.are p' hp'⟩
        · refine wp_if_neg (by decide) ?_
          try refine wpAny_bind (wpAny_pure ?_)
          exact on
    · have miss : t.probe (fun i => (es[i]?.map (·.1)).getD 0) (thash P w k) (stand.getD (t.probeStart (thash P w k))) = some (.empty (way t.mask (thash P w k) K) none) := by
        have e : way t.mask (thash P w k) K = (nth t.mask (at_ t.mask (thash P w k) c) (K - c)).j := by rw [pos, show c + (K - c) = K by omega]
        rw [h0, e]
        exact q5
      rw [miss]
      dsimp only
      refine wpAny_pure (no fun hm => ?_)
      obtain ⟨p', hp', e⟩ := List.mem_map.mp hm
      obtain ⟨i', hi', e'⟩ := List.getElem_of_mem hp'
      have z1 : L[i']? = some p' := by rw [List.getElem?_eq_getElem hi', e']
      obtain ⟨d, d1, d2, d3⟩ := h3 i' p' z1 e
      refine q4 (d - c) i' (by omega) (by rw [pos, show c + (d - c) = d by omega]; exact d3) ?_
      exact (hash i' p' z1).trans (by rw [e])
theorem seek0 (R : Ts P w s.heap a L es ep t) {x : Addr} {k : List Int} (hx : IsT P w s.heap k x) (hu : A.units < cLine) {Q : SetFound → Shared → Prop} (yes : k ∈ L.map (·.2) → Q (.there none) s)
    (no : ∀ K, k ∉ L.map (·.2) → way t.mask (thash P w k) K ∉ t.place.toList → (∀ c, c < K → way t.mask (thash P w k) c ∈ t.place.toList) → Q (.free (way t.mask (thash P w k) K) false) s) :
    wpAny (model P w) A (setSearch a (.ref x) (thash P w k) true) Q E s := by
  have air := R.air
  have top := R.tb.msk.top
  obtain ⟨K, K1, K2, K3⟩ := R.tb.open_ (by rw [List.length_map]; omega) (thash P w k)
  have few : K < 100000 := Nat.lt_of_lt_of_le K1 (by unfold SetTable.turns; omega)
  unfold setSearch
  refine seek R hx hu K1 K2 K3 yes (fun z => no K z K2 K3) 100000 0 none rfl (Nat.zero_le _) (by omega) fun i p hp e => ?_
  have hh : (L.map fun p => thash P w p.2)[i]? = some (thash P w k) := by rw [List.getElem?_map, hp, ← e]; rfl
  obtain ⟨j, hj⟩ := R.tb.slots (List.getElem?_eq_some_iff.mp hh).1
  obtain ⟨d, d1, rfl⟩ := R.tb.ahead K2 hh hj
  exact ⟨d, Nat.zero_le _, d1, hj⟩
end
end BigS

namespace BigS
open PySem PySem.Spec PyProof.Rows L2
theorem grow_5 : SetTable.sizeAbove (SetTable.grown 5) = 32 := by decide +kernel
theorem grow_19 : SetTable.sizeAbove (SetTable.grown 19) = 128 := by decide +kernel
theorem grow_77 : SetTable.sizeAbove (SetTable.grown 77) = 512 := by decide +kernel
theorem grow_307 : SetTable.sizeAbove (SetTable.grown 307) = 2048 := by decide +kernel
/-- a table that is full by n + 1 elements is laid anew with room -/
theorem grows {m n : Nat} (hm : Mk m) (h1 : n * 5 < m * 3) (h2 : (n + 1) * 5 ≥ m * 3) (h3 : n + 1 < 1228) :
    ∃ M, SetTable.sizeAbove (SetTable.grown (n + 1)) - 1 = M ∧ Mk M ∧ SetTable.sizeAbove (SetTable.grown (n + 1)) ≤ 2048 ∧ (n + 1) * 5 < M * 3 := by
  rcases hm with rfl | rfl | rfl | rfl | rfl
  · have e : n = 4 := by omega
    subst e
    exact ⟨31, by rw [grow_5], .inr (.inl rfl), by rw [grow_5]; decide, by decide⟩
  · have e : n = 18 := by omega
    subst e
    exact ⟨127, by rw [grow_19], .inr (.inr (.inl rfl)), by rw [grow_19]; decide, by decide⟩
  · have e : n = 76 := by omega
    subst e
    exact ⟨511, by rw [grow_77], .inr (.inr (.inr (.inl rfl))), by rw [grow_77]; decide, by decide⟩
  · have e : n = 306 := by omega
    subst e
    exact ⟨2047, by rw [grow_307], .inr (.inr (.inr (.inr rfl))), by rw [grow_307]; decide, by decide⟩
  · omega
section
variable {P : Program} {w : World} {A : Around} {E : Value → Shared → Prop} {s : Shared}
variable {a : Addr} {L : List (Addr × List Int)} {es : Array (Int × Value)} {ep : Nat} {t : SetTable}
theorem relay {o : Obj} (ho : s.heap.get? a = some o) (hex : o.ExactSet) (hd : o.data = .set es ep t) (he : es.toList = rowsOf P w L) (T : Tb t (L.map fun p => thash P w p.2)) (hl : L.length ≤ t.mask) (one : (L.map (·.2)).Nodup)
    (are : ∀ p ∈ L, IsT P w s.heap p.2 p.1) (pl : t.plain = true) (ld : w.params.followText "set-order" = true ∨ t.led = true) {wanted M : Nat} (hw : SetTable.sizeAbove wanted - 1 = M) (hM : Mk M) (hw2 : SetTable.sizeAbove wanted ≤ 2048)
    (air : L.length * 5 < M * 3) {Q : Unit → Shared → Prop} (hQ : ∀ h' L' es' ep' t', Heap.SameBut a s.heap h' → Ts P w h' a L' es' ep' t' → L'.Perm L → Q () { s with heap := h' }) : wpAny (model P w) A (setRelay a wanted) Q E s := by
  have hz := ent_size he
  have top := hM.top
  obtain ⟨t', order, r0, r1, r2, r3, r4, r5⟩ := anew t (hs := es.map (·.1)) hw hM (by rw [Array.size_map, hz]; omega)
  rw [Array.size_map, hz] at r1
  obtain ⟨L2, z1, z2, z3⟩ := order_rows L es order he r1
  rw [← z3] at r2
  have hz2 : (order.filterMap (es[·]?)).size = L.length := (ent_size z1).trans z2.length_eq
  have sb : Heap.SameBut a s.heap (s.heap.update a (Obj.putSet (order.filterMap (es[·]?)) t')) := Heap.SameBut.update ..
  rw [setRelay_eq]
  refine wpAny_bind (wpAny_setState_of ho hd (fits_of he (by rw [T.many, List.length_map]) T.nodum hl) ?_)
  dsimp only
  refine wp_if_neg (by rw [sizeLine_eq]; omega) ?_
  try refine wpAny_bind (wpAny_pure ?_)
  rw [r0]
  dsimp only
  refine wpAny_bind ?_
  refine wp_if_neg (by rw [hz2, hz]; simp) ?_
  try refine wpAny_bind (wpAny_pure ?_)
  refine wpAny_pure ?_
  dsimp only
  refine wpAny_storeSet_of ho hd (hQ _ L2 _ (ep + 1) t' sb { at_ := ⟨_, store_at ho hd, ⟨hex.1, hex.2.1, hex.2.2⟩, rfl⟩, ent := z1, tb := r2, one := (z2.map (·.2)).nodup_iff.mpr one, are := fun p hp => isT_same (are p (z2.mem_iff.mp hp)) ho hd sb, pl := by rw [r5]; exact pl, ld := by rw [r4]; exact ld, air := by rw [z2.length_eq, r3]; exact air } z2) (by rw [hz2, sizeLine_eq]; omega)
/-- one more -/
theorem put_in (R : Ts P w s.heap a L es ep t) {x : Addr} {k : List Int} (hx : IsT P w s.heap k x) (hu : A.units < cLine) (few : L.length + 1 < 1228) {Q : Bool → Shared → Prop}
    (hQ : ∀ b h' L' es' ep' t', Heap.SameBut a s.heap h' → Ts P w h' a L' es' ep' t' → (k ∈ L.map (·.2) → L' = L) → (k ∉ L.map (·.2) → L'.Perm ((x, k) :: L)) → Q b { s with heap := h' }) :
    wpAny (model P w) A (setAddHashed a (.ref x) (thash P w k)) Q E s := by
  obtain ⟨o, ho, hex, hd⟩ := R.at_
  have hz := ent_size R.ent
  have air := R.air
  unfold setAddHashed
  refine wpAny_holding ?_
  rw [show (100000 : Nat) = 99999 + 1 from rfl, setAddHashedIn_succ]
  refine wpAny_bind (wpAny_setState_of ho hd R.fit ?_)
  dsimp only
  refine wp_if_neg (by simp [byScan, Value.scannable]) ?_
  try refine wpAny_bind (wpAny_pure ?_)
  refine wpAny_bind (seek0 R hx hu (fun hm => wpAny_pure (hQ false s.heap L es ep t (Heap.SameBut.refl a s.heap) R (fun _ => rfl) fun z => absurd hm z)) fun K hm hK hb => ?_)
  dsimp only
  refine wpAny_bind (wpAny_setState_of ho hd R.fit ?_)
  dsimp only
  obtain ⟨p, p1, p2, p3, T1, m1, l1, pl1, f1⟩ := R.tb.more hK hb
  have hp1 : (t.put (way t.mask (thash P w k) K)).1.plain = true := by rw [pl1]; exact R.pl
  generalize hpt : t.put (way t.mask (thash P w k) K) = pt at p1 T1 m1 l1 pl1 f1 hp1 ⊢
  obtain ⟨t1, q⟩ := pt
  dsimp only at p1 T1 m1 l1 pl1 f1 hp1 ⊢
  subst p1
  first
    | (refine wpAny_bind ?_; refine wp_if_pos hp1 ?_; refine hashBy_tup hx ?_)
    | refine wp_if_pos hp1 (wpAny_bind (hashBy_tup hx ?_))
  simp only [if_true]
  rw [List.length_map] at p3 f1
  have ent1 : (SetTable.insertAt es q (thash P w k, Value.ref x)).toList = rowsOf P w (L.take q ++ (x, k) :: L.drop q) := by rw [SetTable.toList_insertAt, rows_put, R.ent]
  have pm : (L.take q ++ (x, k) :: L.drop q).Perm ((x, k) :: L) := put_perm L q (x, k)
  have hl1 : (L.take q ++ (x, k) :: L.drop q).length = L.length + 1 := pm.length_eq
  have one1 : ((L.take q ++ (x, k) :: L.drop q).map (·.2)).Nodup := (pm.map (·.2)).nodup_iff.mpr (List.nodup_cons.mpr ⟨hm, R.one⟩)
  have T1 : Tb t1 ((L.take q ++ (x, k) :: L.drop q).map fun p => thash P w p.2) := by
    rw [List.map_append, List.map_cons, List.map_take, List.map_drop]
    exact T1
  generalize SetTable.insertAt es q (thash P w k, Value.ref x) = es1 at ent1 ⊢
  generalize L.take q ++ (x, k) :: L.drop q = L1 at ent1 pm hl1 one1 T1
  have hz1 := ent_size ent1
  have sb : Heap.SameBut a s.heap (s.heap.update a (Obj.putSet es1 t1)) := Heap.SameBut.update ..
  have ho1 := store_at (es' := es1) (t' := t1) ho hd
  refine wpAny_bind (wpAny_storeSet_of ho hd ?_ (by rw [hz1, hl1, sizeLine_eq]; omega))
  generalize s.heap.update a (Obj.putSet es1 t1) = h1 at sb ho1 ⊢
  have are1 : ∀ p ∈ L1, IsT P w h1 p.2 p.1 := fun p hp => by
    rcases List.mem_cons.mp (pm.mem_iff.mp hp) with rfl | hp
    · exact isT_same hx ho hd sb
    · exact isT_same (R.are p hp) ho hd sb
  have ld1 : w.params.followText "set-order" = true ∨ t1.led = true := by rw [l1]; exact R.ld
  have ex1 : Obj.ExactSet { o with data := .set es1 (ep + 1) t1 } := ⟨hex.1, hex.2.1, hex.2.2⟩
  have full : t1.tooFull = true ↔ (L.length + 1) * 5 ≥ t.mask * 3 := by
    unfold SetTable.tooFull
    rw [decide_eq_true_eq, f1, m1]
  rcases Classical.em (t1.tooFull = true) with hf | hf
  · first
      | (refine wpAny_bind ?_; refine wp_if_pos (by simp [hf]) ?_)
      | (refine wp_if_pos (by simp [hf]) ?_; refine wpAny_bind ?_)
    obtain ⟨M, g1, g2, g3, g4⟩ := grows R.tb.msk air (full.mp hf) few
    rw [hz]
    refine relay (s := { s with heap := h1 }) ho1 ex1 rfl ent1 T1 (by rw [hl1, m1]; have := R.tb.msk.top; omega) one1 are1 hp1 ld1 g1 g2 g3 (by rw [hl1]; exact g4) fun h2 L2 es2 ep2 t2 sb2 R2 pm2 => ?_
    exact wpAny_pure (hQ true h2 L2 es2 ep2 t2 (sb.trans sb2) R2 (fun z => absurd z hm) fun _ => pm2.trans pm)
  · first
      | refine wp_if_neg (by simp [hf]) ?_
      | (refine wpAny_bind ?_; refine wp_if_neg (by simp [hf]) ?_; refine wpAny_pure ?_)
    have air1 : L1.length * 5 < t1.mask * 3 := by
      rw [hl1, m1]
      exact Nat.lt_of_not_le fun z => hf (full.mpr z)
    exact wpAny_pure (hQ true h1 L1 es1 (ep + 1) t1 sb { at_ := ⟨_, ho1, ex1, rfl⟩, ent := ent1, tb := T1, one := one1, are := are1, pl := hp1, ld := ld1, air := air1 } (fun z => absurd z hm) fun _ => pm)
end
end BigS

namespace BigS
open PySem PySem.Spec PyProof.Rows L2
section
variable {P : Program} {w : World} {A : Around} {E : Value → Shared → Prop} {s : Shared}
theorem Ts.stay {h h' : Heap} {a : Addr} {L : List (Addr × List Int)} {es : Array (Int × Value)} {ep : Nat} {t : SetTable} (R : Ts P w h a L es ep t) (ha : ∀ o, h.get? a = some o → h'.get? a = some o) (ht : ∀ p ∈ L, IsT P w h' p.2 p.1) : Ts P w h' a L es ep t := by
  obtain ⟨o, ho, r⟩ := R.at_
  exact { R with at_ := ⟨o, ha o ho, r⟩, are := ht }
/-- an empty one -/
theorem Ts.none {h : Heap} {a : Addr} (ho : h.get? a = some { cls := .type "set", dict := none, data := .set #[] 0 (.fresh 0 0 (!w.params.followText "set-order")) }) : Ts P w h a [] #[] 0 (.fresh 0 0 (!w.params.followText "set-order")) :=
  { at_ := ⟨_, ho, ⟨rfl, rfl, rfl⟩, rfl⟩, ent := rfl, one := List.nodup_nil, are := fun p hp => (by cases hp), pl := rfl, air := (by decide : 0 * 5 < 7 * 3),
    ld := by
      cases e : w.params.followText "set-order"
      · exact .inr rfl
      · exact .inl rfl,
    tb := { up := List.Pairwise.nil, nodum := rfl, many := rfl, msk := .inl rfl, within := fun x hx => (by cases hx), leads := fun i h j hi => by simp at hi } }
/-- one element after the other is put in -/
theorem fills {I : Addr} {fp wr : List Addr} {G : Array GenState → Array GenState → Prop} {n : Nat} {Pv : Nat → Value → Prop} {St : Nat → Shared → Prop} {R : Result → Shared → Prop} (W : WalksS P w A.in1 I fp wr G n Pv St) (S : Addr) (off : S ∉ fp)
    (ks : List (Addr × List Int)) (hn : n = ks.length) (few : ks.length < 1228) (vals : ∀ i v, Pv i v → ∃ p, ks[i]? = some p ∧ v = .ref p.1) (h0 : Heap) (tups : ∀ p ∈ ks, IsT P w h0 p.2 p.1) (S0 : h0.get? S = none) (wr0 : ∀ b ∈ wr, h0.get? b = none) (hu : A.in1.units < cLine) :
    ∀ (left i : Nat) (s : Shared), i + left = n → St i s → (∀ b o, h0.get? b = some o → s.heap.get? b = some o) → (∃ L es ep t, Ts P w s.heap S L es ep t ∧ Got ks i L) →
      (∀ s' L es ep t, Moved (S :: wr) G s s' → Ts P w s'.heap S L es ep t → Got ks n L → (∀ b o, h0.get? b = some o → s'.heap.get? b = some o) → R (.ok (.ret .none)) s') →
      codeAny (model P w) A (.builtin "set.update.loop" ⟨[.ref S, .ref I], []⟩) R s := by
  have offw : S ∉ wr := fun z => off (W.sub _ z)
  have wider : ∀ b ∈ wr, b ∈ S :: wr := fun b hb => List.mem_cons_of_mem _ hb
  have old : ∀ {s s' : Shared}, Moved wr G s s' → (∀ b o, h0.get? b = some o → s.heap.get? b = some o) → ∀ b o, h0.get? b = some o → s'.heap.get? b = some o := fun mv kp b o e =>
    mv.heap b o (fun hb => by rw [wr0 b hb] at e; cases e) (kp b o e)
  have tupsL : ∀ {i : Nat} {L : List (Addr × List Int)} {h : Heap}, Got ks i L → (∀ b o, h0.get? b = some o → h.get? b = some o) → ∀ p ∈ L, IsT P w h p.2 p.1 := fun g kp p hp => isT_keep (tups p (List.mem_of_mem_take (g.sub p hp))) kp
  intro left
  induction left with
  | zero =>
    rintro i s hi st kp ⟨L, es, ep, t, T, g⟩ fin
    rw [Nat.add_zero] at hi
    subst hi
    refine codeAny_builtin F.entry_set_update_loop ?_
    rw [Around.under_plainId F.plain_set_update_loop _]
    show wpAny _ A.in1 (pyNext (.ref I) >>= _) _ _ s
    refine wpAny_bind (W.done s _ _ st fun s' mv => ?_)
    have kp2 := old mv kp
    show wpAny _ A.in1 (ret Value.none) _ _ s'
    exact wpAny_pure (fin s' L es ep t (mv.mono wider) (T.stay (fun o e => mv.heap S o offw e) (tupsL g kp2)) g kp2)
  | succ left ih =>
    rintro i s hi st kp ⟨L, es, ep, t, T, g⟩ fin
    refine codeAny_builtin F.entry_set_update_loop ?_
    rw [Around.under_plainId F.plain_set_update_loop _]
    show wpAny _ A.in1 (pyNext (.ref I) >>= _) _ _ s
    refine wpAny_bind (W.item i s _ _ (by omega) st fun v s' pv st' mv => ?_)
    obtain ⟨p, hp, rfl⟩ := vals i v pv
    have kp2 := old mv kp
    have T2 : Ts P w s'.heap S L es ep t := T.stay (fun o e => mv.heap S o offw e) (tupsL g kp2)
    have hx : IsT P w s'.heap p.2 p.1 := isT_keep (tups p (List.mem_of_getElem? hp)) kp2
    show wpAny _ A.in1 (holding [Value.ref p.1] (setAdd S (.ref p.1)) >>= _) _ _ s'
    refine wpAny_bind (wpAny_holding ?_)
    unfold setAdd
    refine wpAny_holding (wpAny_bind (wpAny_pyHash_tuple hu hx ?_))
    refine put_in (s := { s' with toks := s'.toks + (p.2.length + 1) }) T2 hx hu (by have := g.len; omega) fun b h' L' es' ep' t' sb T3 c1 c2 => ?_
    have g2 : Got ks (i + 1) L' := by
      rcases Classical.em (p.2 ∈ L.map (·.2)) with c | c
      · rw [c1 c]; exact g.same hp c
      · exact g.more hp (c2 c)
    have kp3 : ∀ b o, h0.get? b = some o → h'.get? b = some o := fun b o e => (sb.2 b fun z => by rw [z, S0] at e; cases e).trans (kp2 b o e)
    refine wpAny_pure ⟨plainId_quiet F.plain_set_update_loop _, ih (i + 1) _ (by omega) (W.frame _ s' _ _ st' (Nat.le_add_right _ _) fun b hb o e => ?_) kp3 ⟨L', es', ep', t', T3, g2⟩ fun s'' L2 es2 ep2 t2 mv2 T4 g4 kp4 => ?_⟩
    · rw [sb.2 b fun z : b = S => off (by rw [← z]; exact hb)]
      exact e
    · refine fin s'' L2 es2 ep2 t2 (Moved.trans W.gtrans ((mv.mono wider).then_heap (Nat.le_add_right _ _) fun b o hb e => ?_) mv2) T4 g4 kp4
      rw [sb.2 b fun z : b = S => hb (by rw [z]; exact List.mem_cons_self)]
      exact e
end
end BigS

namespace BigS
open PySem PySem.Spec PyProof.Rows L2
local macro_rules | `(tactic| walk_at "go on") => `(tactic| repeat (any_goals (first | assumption | wp_step)))
/-- a new set, as it stands in a heap -/
abbrev bare (w : World) : Obj := { cls := .type "set", dict := none, data := .set #[] 0 (.fresh 0 0 (!w.params.followText "set-order")) }
section
variable {P : Program} {w : World} {A : Around} {E : Value → Shared → Prop} {s : Shared}
set_option maxHeartbeats 8000000 in
/-- set(l), l a list of fewer than 1228 tuples of ints -/
theorem made {l : Addr} {items : Array Value} (ks : List (Addr × List Int)) {Q : Value → Shared → Prop} (hh : A.handled = none) (hl : s.heap.IsList l items) (hit : items.toList = ks.map fun p => Value.ref p.1) (hk : ∀ p ∈ ks, IsT P w s.heap p.2 p.1) (few : ks.length < 1228) (hu : A.units + 3 < cLine)
    (h : ∀ (h' : Heap) (tk : Nat) L es ep t, Ts P w h' s.heap.objs.size L es ep t → Got ks ks.length L → (∀ b o, s.heap.get? b = some o → h'.get? b = some o) → Q (.ref s.heap.objs.size) { s with heap := h', toks := tk }) : wpAny (model P w) A (call (.type "set") [.ref l]) Q E s := by
  obtain ⟨c, tl, hmro⟩ := F.called_set.mro
  have m1 := F.called_set.made
  have m2 := F.called_set.sub
  have m3 := F.called_set.notType
  have m4 := F.called_set.canCreate
  have m5 := F.typeCall_set_1 (.ref l)
  refine wpAny_call (codeAny_of_tree (?_ : wpAny _ _ (callAny (.type "set") _) _ _ _))
  refine wpAny_pure ⟨Code.quiet_builtin _ (by decide +kernel), codeAny_builtin F.entry_type_call ?_⟩
  rw [Around.under_plain (weight_type_call_type "set" [.ref l] []) rfl]
  walk_at "go on"
  refine codeAny_mono (code_set_led1 (.ref l) (E := E) (Q₁ := fun v z => v = .ref s.heap.objs.size ∧ z = { s with heap := s.heap.push (bare w) }) ⟨rfl, rfl⟩) fun r s1 hr => ?_
  rcases r with e | fl
  · exact hr
  cases fl with
  | ret v =>
    obtain ⟨rfl, rfl⟩ := hr
    have top : (s.heap.push (bare w)).get? s.heap.objs.size = some (bare w) := Heap.get?_push_size _ rfl
    have ty : Shared.TypeIs { s with heap := s.heap.push (bare w) } (.ref s.heap.objs.size) "set" := ⟨_, top, rfl⟩
    have i1 := F.called_set.init.lookup
    have i2 := F.called_set.init.bind (.ref s.heap.objs.size)
    walk_at "go on"
    refine codeAny_mono (codeAny_call_builtin (R := wants (fun r s2 => r = .none ∧ ∃ h' tk L es ep t, s2 = { s with heap := h', toks := tk } ∧ Ts P w h' s.heap.objs.size L es ep t ∧ Got ks ks.length L ∧ (∀ b o, s.heap.get? b = some o → h'.get? b = some o)) E) F.called_set.init.plain F.entry_set_init (check_set_init_1 ty ?_)) fun r2 s2 hr2 => ?_
    · obtain ⟨ol, hol, hc, nl, hdl⟩ := hl
      obtain ⟨oc, od, ot, os⟩ := ol
      dsimp only at hc hdl
      subst hc hdl
      have here : (s.heap.push (bare w)).get? l = some { cls := .type "list", dict := od, data := .seq items nl, slots := os } := Heap.get?_push_of_some _ hol
      have n1 := F.sub_list_set
      have n2 := F.sub_list_frozenset
      have n3 : (Value.type "list" == Value.type "dict") = false := by decide
      have isl : (s.heap.push (bare w)).IsList l items := ⟨_, here, rfl, nl, rfl⟩
      have lt : l < s.heap.objs.size := Heap.lt_size hol
      have hh3 : A.in1.in1.in1.handled = none := by simp [hh]
      have sz : (s.heap.push (bare w)).objs.size = s.heap.objs.size + 1 := Heap.size_push ..
      unfold Builtin.«set.__init__» noKeywords Builtin.Frozenset.updateFrom
      generalize hPI : pyIter = PI
      wp_walk
      subst hPI
      refine wpAny_pyIter_list isl (wpAny_bind (wpAny_runValue ?_))
      have many : items.size = ks.length := by rw [← Array.length_toList, hit, List.length_map]
      have above : ∀ b, s.heap.objs.size ≤ b → s.heap.get? b = none := fun b hb => by
        cases q : s.heap.get? b with
        | none => rfl
        | some o => exact absurd (Nat.lt_of_lt_of_le (Heap.lt_size q) hb) (Nat.lt_irrefl _)
      have item : ∀ (i : Nat) (v : Value), items[i]? = some v → ∃ p, ks[i]? = some p ∧ v = .ref p.1 := fun i v hv => by
        rw [← Array.getElem?_toList, hit, List.getElem?_map] at hv
        obtain ⟨p, hp, e⟩ := Option.map_eq_some_iff.mp hv
        exact ⟨p, hp, e.symm⟩
      refine fills ((Walks.list hh3 _ l (by rw [sz]; exact Nat.ne_of_lt (Nat.lt_succ_of_lt lt)) items).toS) s.heap.objs.size (fun z => by
        rcases List.mem_cons.mp z with z | z
        · rw [sz] at z; exact Nat.ne_of_lt (Nat.lt_succ_self _) z
        · exact Nat.ne_of_gt lt (List.mem_singleton.mp z)) ks many few item s.heap hk (above _ (Nat.le_refl _)) (fun b hb => above b (by rw [List.mem_singleton.mp hb, sz]; exact Nat.le_succ _)) hu items.size 0 _ (Nat.zero_add _)
        ⟨⟨_, Heap.get?_push_size _ rfl, rfl, rfl⟩, isl.push _⟩ (fun b o e => Heap.get?_push_of_some _ (Heap.get?_push_of_some _ e)) ⟨[], #[], 0, _, Ts.none (Heap.get?_push_of_some _ top), Got.zero ks⟩ fun s' L es ep t mv T g kp => ?_
      obtain ⟨h', g2, d', tk', os'⟩ := s'
      have e1 : g2 = s.gens := mv.gens
      have e2 : d' = s.drawn := mv.drawn
      have e3 : os' = s.os := mv.os
      subst e1 e2 e3
      rw [many] at g
      show wpAny _ _ _ _ _ _
      refine wpAny_pure ?_
      show wpAny _ _ (ret Value.none) _ _ _
      exact wpAny_pure ⟨rfl, h', tk', L, es, ep, t, rfl, T, g, kp⟩
    · rcases r2 with e | fl2
      · exact hr2
      cases fl2 with
      | ret r =>
        obtain ⟨rfl, h', tk, L, es, ep, t, rfl, T, g, kp⟩ := hr2
        walk_at "go on"
        exact h _ _ _ _ _ _ T g kp
      | _ => exact hr2.elim
  | _ => exact hr.elim
end
end BigS

namespace BigS
open PySem PySem.Spec PyProof.Rows L2
/-- a set of so many, whatever they are -/
structure CountP (a : Addr) (n : Nat) (h : Heap) : Prop where
  ex : ∃ o es ep t, h.get? a = some o ∧ o.ExactSet ∧ o.data = .set es ep t ∧ t.fits es.size = true ∧ es.size = n
def CountO (a : Addr) (n : Nat) : HO := .ext (CountP a n)
theorem countO_new {P : Program} {w : World} {H : Hp} {h : Heap} {a : Addr} {n : Nat} (R : CountP a n h) : ObjOk P w H h a (CountO a n) := by
  have ⟨o, es, ep, t, ho, r⟩ := R.ex
  refine ⟨R, ⟨o, ho⟩, fun h1 h2 p k => ?_⟩
  have ⟨o', es', ep', t', ho', r'⟩ := CountP.ex p
  exact ⟨o', es', ep', t', k o' ho', r'⟩
section
variable {X : Cx}
def rSetC (K : PySem.W.Frag) : List V → Hp → VK → Prop := fun xs H Q => ∃ (l : Addr) (ks : List (Addr × List Int)), xs = [V.ref l] ∧ SqL K H l (ks.map fun p => V.ref p.1) ∧ (∀ p ∈ ks, SqT K H p.1 (p.2.map V.int)) ∧ ks.length < 1228 ∧
  ∀ (a : Addr) (L : List (List Int)), H a = none → L.Nodup → L.length < 1228 → (∀ k, k ∈ L ↔ k ∈ ks.map (·.2)) → Q (.ref a) (upd H a (CountO a L.length))
theorem cr_setC (hc : X.calm = true) (hu : X.A.units + 64 < cLine) : CallR X (.type "set") (rSetC X.K) := by
  intro pins s σ H xs us Q I r h
  obtain ⟨l, ks, rfl, hl, hk, few, q⟩ := h
  rw [Vals.ref1 r]
  obtain ⟨its, rv, pl, hz⟩ := I.list hl
  have free : H s.heap.objs.size = none := I.hok.fresh (Nat.le_refl _)
  refine made (P := X.prog) (w := X.w) ks (I.ok.hd hc) pl.isList (by simpa using refs_of_vals rv) (fun p hp => I.isT (hk p hp)) few (by omega) fun h' tk L es ep t T g kp => ?_
  have C : CountP s.heap.objs.size (L.map (·.2)).length h' := by
    obtain ⟨o, ho, hex, hd⟩ := T.at_
    exact ⟨o, es, ep, t, ho, hex, hd, Ts.fit (s := { s with heap := h' }) T, by rw [List.length_map]; exact ent_size T.ent⟩
  refine ⟨.ref s.heap.objs.size, upd H s.heap.objs.size (CountO s.heap.objs.size (L.map (·.2)).length), I.laid (t' := tk) kp (Nat.le_refl _) (countO_new C), rfl, q _ _ free T.one (by rw [List.length_map]; exact Nat.lt_of_le_of_lt g.len few) fun k => ⟨fun hm => ?_, fun hm => ?_⟩⟩
  · obtain ⟨p, hp, rfl⟩ := List.mem_map.mp hm
    exact List.mem_map_of_mem (f := (·.2)) (List.mem_of_mem_take (g.sub p hp))
  · obtain ⟨p, hp, rfl⟩ := List.mem_map.mp hm
    exact g.all p (by rw [List.take_length]; exact hp)
def rLenC : List V → Hp → VK → Prop := fun vs H Q => ∃ (a : Addr) (n : Nat), vs = [V.ref a] ∧ H a = some (CountO a n) ∧ n < 1228 ∧ Q (.int (n : Nat)) H
theorem cr_lenC : CallR X (.builtin "len") rLenC := by
  intro pins s σ H vs us Q I r h
  obtain ⟨a, n, rfl, ha, few, q⟩ := h
  have C : CountP a n s.heap := (I.hok a _ ha).1
  obtain ⟨o, es, ep, t, ho, hex, hd, hf, hn⟩ := C.ex
  rw [Vals.ref1 r]
  exact call_len_set ho hex hd hf (by rw [hn]; omega) ⟨.int (n : Nat), H, I.tok _, ⟨_, by rw [hn]⟩, q⟩
end
end BigS
namespace L3
open PySem PySem.Spec PyProof.Rows L2
/-- len(set(xs)), xs fewer than 1228 tuples of ints -/
def tLenSetG3 (te : TE3) : TE3 := fun env S Q => te env S fun x S1 => match lst3 S1 x with
  | some ds => match allP tups? ds with
    | some kss => kss.length < 1228 ∧ ∀ L : List (List Int), L.Nodup → (∀ k, k ∈ L ↔ k ∈ kss) → Q (.p (.int (L.length : Nat))) S1
    | none => False
  | none => False
theorem qe_lenSetG {X : Cx} {e : Expr} {te : TE3} {p q pos pos' : Pos} (hc : X.calm = true) (hu : X.A.units + 64 < cLine) (hg : Gl X "len") (hm : X.mg "len" = none) (hg2 : Gl X "set") (hm2 : X.mg "set" = none) (ha : QE X e te)
    (hs : starEach [e] X.env = (false, eval e X.env) :: starEach [] X.env := by rfl) (hpl : (backTo pos' (starEach [] X.env)).any (·.1) = false := by rfl)
    (hs2 : starEach [.Call (.Name "set" q) [e] [] pos'] X.env = (false, eval (.Call (.Name "set" q) [e] [] pos') X.env) :: starEach [] X.env := by rfl) (hpl2 : (backTo pos (starEach [] X.env)).any (·.1) = false := by rfl) :
    QE X (.Call (.Name "len" p) [.Call (.Name "set" q) [e] [] pos'] [] pos) (tLenSetG3 te) :=
  L2.PE.imp (pe_callB BigS.cr_lenC hg hm (by decide +kernel) (pa_cons (pe_callTy (BigS.cr_setC hc hu) hg2 hm2 (by decide +kernel) (pa_cons ha pa_nil hs) (by decide) (by decide) hs hpl) pa_nil hs2) (by decide) (by decide) hs2 hpl2) fun σ H R ⟨w, env, S, Q, r0, en, t, q⟩ => by
    refine ⟨w, env, S, _, r0, en, t, fun w1 v d H1 S1 e1 r1 p1 t1 => ?_⟩
    split at t1
    rotate_left
    · exact t1.elim
    rename_i ds h1
    split at t1
    rotate_left
    · exact t1.elim
    rename_i kss h2
    obtain ⟨c1, t1⟩ := t1
    obtain ⟨a, xs, rfl, hq, hd, hz⟩ := lst3_low r1 p1 h1
    obtain ⟨ks, rfl, rfl, hk⟩ := tups_low hd h2
    rw [List.length_map] at c1
    refine ⟨a, ks, rfl, hq, fun p hp => Same.sqT r1.sub (hk p hp), c1, fun b L hn nd few iff => ?_⟩
    obtain ⟨r2, e2⟩ := r1.frz (u := BigS.CountO b L.length) hn trivial
    exact ⟨b, L.length, rfl, upd_same, few, q _ (.int (L.length : Nat)) (.p (.int (L.length : Nat))) _ S1 (e1.trans e2) r2 (.int _) (t1 L nd iff)⟩
end L3

namespace L3
open PySem PySem.Spec PyProof.Rows L2
/-! ### a, b, c = x, y, z with plain local names -/
def tPrT3 (i j l : Nat) (ta : TA3) : TS3 := fun D env S => ta env S fun ds S1 => match ds with
  | [x, y, z] => D.nx (set3 (set3 (set3 env i x) j y) l z) S1
  | _ => False
theorem qs_par3 {X : Cx} {i j l : Nat} {x y z : Str} {a b c : Expr} {ta : TA3} {px py pz pt pos : Pos} {kt k2 pt2} (hc : X.calm = true) (hN : X.N.Nodup) (hi : X.N[i]? = some x) (hj : X.N[j]? = some y) (hl : X.N[l]? = some z) (hij : i ≠ j) (hil : i ≠ l) (hjl : j ≠ l)
    (hx : X.env.scope.names.lookup x = some .local) (hy : X.env.scope.names.lookup y = some .local) (hz : X.env.scope.names.lookup z = some .local) (ha : QA X [a, b, c] ta)
    (hw : swappedStores [.Tuple [.Name x px, .Name y py, .Name z pz] kt pt] (.Tuple [a, b, c] k2 pt2) X.env = pure (some [x, y, z]))
    (hs : swapsWithSole [.Tuple [.Name x px, .Name y py, .Name z pz] kt pt] (.Tuple [a, b, c] k2 pt2) pos.line X.env = pure false := by rfl) :
    QS X (.Assign [.Tuple [.Name x px, .Name y py, .Name z pz] kt pt] (.Tuple [a, b, c] k2 pt2) pos) (tPrT3 i j l ta) := (ps_par3 hc hN hi hj hl hij hil hjl hx hy hz ha hw hs).imp fun D σ H ⟨w, env, S, D3, r, en, t, q⟩ => by
  refine ⟨w, env, S, _, r, en, t, fun w1 vs ds H1 S1 e1 r1 p1 t1 => ?_⟩
  match vs, ds, p1, t1 with
  | [v, u, t], [x, y, z], p1, t1 =>
    exact ⟨v, u, t, rfl, q.nx w1 _ H1 _ S1 e1 r1 ((((en.mono e1).set i p1.1).set j p1.2.1).set l p1.2.2.1) t1⟩
  | [], [x, y, z], p1, _ => exact p1.elim
  | [_], [x, y, z], p1, _ => exact p1.2.elim
  | [_, _], [x, y, z], p1, _ => exact p1.2.2.elim
  | _ :: _ :: _ :: _ :: _, [x, y, z], p1, _ => exact p1.2.2.2.elim
/-- .. where a comprehension reads one of them: by a tuple -/
theorem qs_parC3 {X : Cx} {i j l : Nat} {tg a b c : Expr} {ta : TA3} {pos pt2 : Pos} {k2} (ha : QA X [a, b, c] ta) (hg : QB X tg (.tup (.cons (.nm i) (.cons (.nm j) (.cons (.nm l) .nil))))) (hs : swapsWithSole [tg] (.Tuple [a, b, c] k2 pt2) pos.line X.env = pure false := by rfl)
    (hw : swappedStores [tg] (.Tuple [a, b, c] k2 pt2) X.env = pure none := by rfl) (h1 : (assignEach [tg] X.env).map (·.2) = [assign tg X.env] := by rfl) : QS X (.Assign [tg] (.Tuple [a, b, c] k2 pt2) pos) (tPrT3 i j l ta) :=
  (ps_asg (pe_tup ha) hg hs hw h1).imp fun D σ H ⟨w, env, S, D3, r, en, t, q⟩ => by
  refine ⟨w, env, S, _, r, en, t, fun w1 vs ds H1 S1 e1 r1 p1 t1 => ?_⟩
  have h3 : 3 ≤ sizeLine := by rw [sizeLine_eq]; decide
  match vs, ds, p1, t1 with
  | [v, u, t], [x, y, z], p1, t1 =>
    refine ⟨h3, fun p hn => ?_⟩
    obtain ⟨r2, e2⟩ := r1.frz (u := .tup [v, u, t]) hn h3
    unfold g2
    refine ⟨p, [v, u, t], rfl, .inl (.inl upd_same), rfl, ?_⟩
    unfold gs2
    refine ⟨v, [u, t], rfl, ?_⟩
    unfold gs2
    refine ⟨u, [t], rfl, ?_⟩
    unfold gs2
    refine ⟨t, [], rfl, ?_⟩
    unfold gs2
    refine ⟨rfl, ?_⟩
    exact q.nx _ _ _ _ S1 (e1.trans e2) r2 ((((en.mono (e1.trans e2)).set i (p1.1.mono e2)).set j (p1.2.1.mono e2)).set l (p1.2.2.1.mono e2)) t1
  | [], [x, y, z], p1, _ => exact p1.elim
  | [_], [x, y, z], p1, _ => exact p1.2.elim
  | [_, _], [x, y, z], p1, _ => exact p1.2.2.elim
  | _ :: _ :: _ :: _ :: _, [x, y, z], p1, _ => exact p1.2.2.2.elim
end L3

namespace L3
open PySem PySem.Spec PyProof.Rows L2
/-! ### zip of a list and a tuple -/
/-- the list at a and the tuple at b at each turn, the items in a new pair -/
def ItzM (K : PySem.W.Frag) (a b : Addr) : It :=
  ⟨fun i H => ∃ (xs ys : List V) (x y : V), SqL K H a xs ∧ SqT K H b ys ∧ xs[i]? = some x ∧ ys[i]? = some y,
    fun i H v H' => ∃ T x y, v = .ref T ∧ H T = none ∧ H' = upd H T (.tup [x, y]) ∧ (∀ xs, SqL K H a xs → xs[i]? = some x) ∧ ∀ ys, SqT K H b ys → ys[i]? = some y,
    fun i H => ∃ xs ys : List V, SqL K H a xs ∧ SqT K H b ys ∧ (xs.length ≤ i ∨ ys.length ≤ i)⟩
/-- an iterator's items from where it stands, or its end -/
theorem list_draws {prog : Program} {w : World} {A : Around} (hh : A.handled = none) {it l : Addr} (hne : l ≠ it) {items : Array Value} {h : Heap} {i : Nat} (hit : h.IsListIter it l i) (hl : h.IsList l items) :
    ∃ (n : Nat) (St : Nat → Heap → Prop), (i ≤ n ∧ (items.size ≤ i → i = n)) ∧ Draws prog w A it [it, l] n (fun j v => items[j]? = some v) St ∧ St i h := by
  by_cases hi : i ≤ items.size
  · exact ⟨_, _, ⟨hi, fun z => Nat.le_antisymm hi z⟩, Draws.list hh it l hne items, hit, hl⟩
  · refine ⟨i, fun j h => j = i ∧ h.IsListIter it l i ∧ h.IsList l items, ⟨Nat.le_refl _, fun _ => rfl⟩, ⟨fun _ _ st => let ⟨o, ho, _⟩ := st.2.1; ⟨o, ho⟩, fun _ _ _ st hk => ⟨st.1, st.2.1.at fun o e => hk it (by simp) o e, st.2.2.at fun o e => hk l (by simp) o e⟩, fun j s Q E hj st _ => absurd st.1 (Nat.ne_of_lt hj), fun s Q E st hE => wpAny_nextOf_list_end hh st.2.1 st.2.2 (by simp; omega) hE⟩, rfl, hit, hl⟩
theorem tuple_draws {prog : Program} {w : World} {A : Around} (hh : A.handled = none) {it l : Addr} (hne : l ≠ it) {items : Array Value} {h : Heap} {i : Nat} (hit : h.IsTupleIter it l i) (hl : h.IsTuple l items) :
    ∃ (n : Nat) (St : Nat → Heap → Prop), (i ≤ n ∧ (items.size ≤ i → i = n)) ∧ Draws prog w A it [it, l] n (fun j v => items[j]? = some v) St ∧ St i h := by
  by_cases hi : i ≤ items.size
  · exact ⟨_, _, ⟨hi, fun z => Nat.le_antisymm hi z⟩, Draws.tuple hh it l hne items, hit, hl⟩
  · refine ⟨i, fun j h => j = i ∧ h.IsTupleIter it l i ∧ h.IsTuple l items, ⟨Nat.le_refl _, fun _ => rfl⟩, ⟨fun _ _ st => let ⟨o, ho, _⟩ := st.2.1; ⟨o, ho⟩, fun _ _ _ st hk => ⟨st.1, st.2.1.at fun o e => hk it (by simp) o e, st.2.2.at fun o e => hk l (by simp) o e⟩, fun j s Q E hj st _ => absurd st.1 (Nat.ne_of_lt hj), fun s Q E st hE => RZ.nextOf_tuple_end hh st.2.1 st.2.2 (by simp; omega) hE⟩, rfl, hit, hl⟩
theorem turn_zipM {P : Program} {w : World} {K : PySem.W.Frag} {elts : List Expr} {kk : Nat} {tpos : Pos} {a b z TI TO i1 i2 : Addr} (S : ZipSep2 z TI TO i1 i2 [i1, a] [i2, b]) :
    Turn P w K (.Tuple elts kk tpos) (ItzM K a b) [z, TI, TO, i1, i2] z (fun i h => IsZip h z TI TO .none ∧ IsTupOf2 h TI (.ref i1) (.ref i2) ∧ (∃ x y, IsTupOf2 h TO x y) ∧ h.IsListIter i1 a i ∧ h.IsTupleIter i2 b i) := by
  have na : a ≠ i1 ∧ b ≠ i2 → True := fun _ => trivial
  constructor
  · simp
  · intro i h st c hc
    obtain ⟨hz, hTI, ⟨x, y, hTO⟩, ⟨o1, e1, _, d1⟩, ⟨o2, e2, _, d2⟩⟩ := st
    simp only [List.mem_cons, List.not_mem_nil, or_false] at hc
    rcases hc with q | q | q | q | q <;> subst q
    · exact ⟨_, hz, fun v q => nomatch q⟩
    · exact ⟨_, hTI, fun v q => nomatch q⟩
    · exact ⟨_, hTO, fun v q => nomatch q⟩
    · exact ⟨o1, e1, fun v q => by rw [d1] at q; cases q⟩
    · exact ⟨o2, e2, fun v q => by rw [d2] at q; cases q⟩
  · intro i h h' st k
    obtain ⟨hz, hTI, ⟨x, y, hTO⟩, h1, h2⟩ := st
    exact ⟨k z (by simp) _ hz, k TI (by simp) _ hTI, ⟨x, y, k TO (by simp) _ hTO⟩, h1.at fun o q => k i1 (by simp) o q, h2.at fun o q => k i2 (by simp) o q⟩
  · intro X hP hw hK hc i pins s σ H E I hf st hg
    subst hP hw hK
    obtain ⟨hz, hTI, ⟨x0, y0, hTO⟩, h1, h2⟩ := st
    obtain ⟨xs, ys, x, y, hqx, hqy, hx, hy⟩ := hg
    obtain ⟨its, rv, p, _⟩ := I.list hqx
    obtain ⟨its2, rv2, p2, _⟩ := I.tuple hqy
    obtain ⟨u, hu, ru⟩ := rv.get hx
    obtain ⟨u2, hu2, ru2⟩ := rv2.get hy
    have hzl : z < s.heap.objs.size := Heap.lt_size hz
    have ha1 : a ≠ i1 := fun q => by
      subst q
      obtain ⟨o, g, c, d⟩ := h1
      obtain ⟨o', g', c', _⟩ := p.isList
      rw [g] at g'
      cases g'
      rw [c] at c'
      exact absurd c' (by decide)
    have hb2 : b ≠ i2 := fun q => by
      subst q
      obtain ⟨o, g, c, d⟩ := h2
      obtain ⟨o', g', c', _⟩ := p2
      rw [g] at g'
      cases g'
      rw [c] at c'
      exact absurd c' (by decide)
    have hd : X.A.in1.handled = none := I.ok.hd hc
    have D1 := Draws.list (prog := X.prog) (w := X.w) hd i1 a ha1 its.toArray
    have D2 := Draws.tuple (prog := X.prog) (w := X.w) hd i2 b hb2 its2.toArray
    refine wpAny_pyNext_zipD2_item S D1 D2 hz hTI hTO ⟨h1, p.isList⟩ ⟨h2, p2⟩ (by have := (List.getElem?_eq_some_iff.mp hu).1; simpa using this) (by have := (List.getElem?_eq_some_iff.mp hu2).1; simpa using this) fun x1 x2 h' tk y1 y2 z' TO' g1 g2 hT hsz hk => ?_
    have ex1 : x1 = u := by simpa [hu] using y1.symm
    have ex2 : x2 = u2 := by simpa [hu2] using y2.symm
    subst ex1 ex2
    refine ⟨_, rfl, wpAny_letOwnedTupleGo_zip (s := { s with heap := h', toks := tk }) z' fun h'' z'' sb => ?_⟩
    have hT2 : h''.get? s.heap.objs.size = some { cls := .type "tuple", data := .seq #[x1, x2] } := (sb.2 _ (Nat.ne_of_gt hzl)).trans hT
    have new : ObjOk X.prog X.w (upd H s.heap.objs.size (.tup [x, y])) h'' s.heap.objs.size (.tup [x, y]) :=
      ⟨by show 2 ≤ sizeLine; decide, [x1, x2], .cons ru (.cons ru2 .nil), ⟨_, hT2, rfl, _, rfl⟩⟩
    have I1 : L2.Inv X pins σ (upd H s.heap.objs.size (.tup [x, y])) { s with heap := h'', toks := tk } :=
      I.turnedNew (t' := tk) (ch := [z, TI, TO, i1, i2]) (fun c o hb q => (sb.2 c (fun q' => hb (by simp [q']))).trans (hk c o (fun q' => hb (by simp [q'])) (fun q' => hb (by simp [q'])) (fun q' => hb (by simp [q'])) (fun q' => hb (by simp [q'])) q)) hf (Nat.le_refl _) new
    have lt : ∀ c ∈ [z, TI, TO, i1, i2], c < s.heap.objs.size := fun c hcm => by
      simp only [List.mem_cons, List.not_mem_nil, or_false] at hcm
      rcases hcm with q | q | q | q | q <;> subst q
      · exact hzl
      · exact Heap.lt_size hTI
      · exact Heap.lt_size hTO
      · obtain ⟨_, e1, _⟩ := h1; exact Heap.lt_size e1
      · obtain ⟨_, e2, _⟩ := h2; exact Heap.lt_size e2
    refine ⟨.ref s.heap.objs.size, _, I1, rfl, ⟨_, x, y, rfl, I.hok.fresh (Nat.le_refl _), rfl, fun l hl => by rw [I.list_inj hl hqx]; exact hx, fun l hl => by rw [I.tuple_inj hl hqy]; exact hy⟩, ⟨z'', ?_, ⟨x1, x2, ?_⟩, ?_, ?_⟩, fun c hcm => ?_⟩
    · exact (sb.2 _ S.TIz).trans (hk _ _ S.TIz S.TITO S.TIi1 S.TIi2 hTI)
    · exact (sb.2 _ S.TOz).trans TO'
    · exact g1.1.at fun o q => (sb.2 _ S.zi1.symm).trans q
    · exact g2.1.at fun o q => (sb.2 _ S.zi2.symm).trans q
    · rw [upd_ne (Nat.ne_of_lt (lt c hcm))]
      exact (hf c hcm).1
  · intro X hP hw hK hc i pins s σ H E I hf st hg
    subst hP hw hK
    obtain ⟨hz, hTI, ⟨x0, y0, hTO⟩, h1, h2⟩ := st
    obtain ⟨xs, ys, hqx, hqy, hend⟩ := hg
    obtain ⟨its, rv, p, _⟩ := I.list hqx
    obtain ⟨its2, rv2, p2, _⟩ := I.tuple hqy
    have l1 := rv.length
    have l2 := rv2.length
    have ha1 : a ≠ i1 := fun q => by
      subst q
      obtain ⟨o, g, c, d⟩ := h1
      obtain ⟨o', g', c', _⟩ := p.isList
      rw [g] at g'
      cases g'
      rw [c] at c'
      exact absurd c' (by decide)
    have hb2 : b ≠ i2 := fun q => by
      subst q
      obtain ⟨o, g, c, d⟩ := h2
      obtain ⟨o', g', c', _⟩ := p2
      rw [g] at g'
      cases g'
      rw [c] at c'
      exact absurd c' (by decide)
    have hd : X.A.in1.handled = none := I.ok.hd hc
    obtain ⟨n1, St1, q1, D1, u1⟩ := list_draws (prog := X.prog) (w := X.w) hd ha1 h1 p.isList
    obtain ⟨n2, St2, q2, D2, u2⟩ := tuple_draws (prog := X.prog) (w := X.w) hd hb2 h2 p2
    refine wpAny_pyNext_zipD2_end S D1 D2 hz hTI hTO u1 u2 q1.1 q2.1 (hend.elim (fun q => .inl (q1.2 (by simp; omega))) fun q => .inr (q2.2 (by simp; omega))) fun h' tk hk => ⟨rfl, I.turnedL (t' := tk) (ch := [z, TI, TO, i1, i2]) (fun c o hb q =>
      hk c o (fun q' => hb (by simp [q'])) (fun q' => hb (by simp [q'])) (fun q' => hb (by simp [q'])) (fun q' => hb (by simp [q'])) q) hf⟩
  · exact fun A i s Q E st h => wpAny_pyIter_zip st.1 h
def iZipM (K : PySem.W.Frag) (ta : TA) : TI := fun σ H R => ta σ H fun vs H1 => ∃ a b xs ys, vs = [.ref a, .ref b] ∧ SqL K H1 a xs ∧ SqT K H1 b ys ∧ R (ItzM K a b) H1
theorem pi_zipM {X : Cx} {e e2 : Expr} {ta : TA} {p pos tpos : Pos} {elts : List Expr} {kk : Nat} (hg : Gl X "zip") (hm : X.mg "zip" = none) (ha : PA X [e, e2] ta)
    (hs : starEach [e, e2] X.env = (false, eval e X.env) :: starEach [e2] X.env := by rfl) (hpl : (backTo pos (starEach [e2] X.env)).any (·.1) = false := by rfl) :
    PI X (.Tuple elts kk tpos) (.Call (.Name "zip" p) [e, e2] [] pos) (iZipM X.K ta) := by
  refine ⟨fun pins s σ H R I h => ?_⟩
  refine Call_ (ld_blt I hg hm PyProof.Rows.boot_zip (PyProof.Rows.callWith_type1 (thn (ha.run pos pins s σ H _ I h) fun us s1 ⟨vs, H1, I1, r1, q1⟩ => ?_) hs hpl))
  obtain ⟨a, b, xs, ys, ex, hqx, hqy, q⟩ := q1
  subst ex
  cases r1 with
  | cons r rr =>
  cases rr with
  | cons r' rr =>
  cases rr
  cases r
  cases r'
  obtain ⟨its, rv, p1, _⟩ := I1.list hqx
  obtain ⟨its2, rv2, p2, _⟩ := I1.tuple hqy
  have la : a < s1.heap.objs.size := p1.lt
  have lb : b < s1.heap.objs.size := by obtain ⟨o2, ho2, _⟩ := id p2; exact Heap.lt_size ho2
  refine zip_begins2 (begins_list a its.toArray) (begins_tuple b its2.toArray) p1.isList (show s1.heap.IsTuple b its2.toArray from p2) fun h' hz hTI hTO g1 g2 hsz hk => wpAny_pyIter_zip hz ?_
  have I2 : L2.Inv X pins σ H1 { s1 with heap := h' } := I1.kept (t' := s1.toks) hk
  have sep : ZipSep2 (s1.heap.objs.size + 4) (s1.heap.objs.size + 2) (s1.heap.objs.size + 3) s1.heap.objs.size (s1.heap.objs.size + 1) [s1.heap.objs.size, a] [s1.heap.objs.size + 1, b] :=
    zip_sep2 (fun c hc => by rw [List.mem_singleton.mp hc]; exact la) (fun c hc => by rw [List.mem_singleton.mp hc]; exact lb)
  refine ⟨s1.heap.objs.size + 4, [s1.heap.objs.size + 4, s1.heap.objs.size + 2, s1.heap.objs.size + 3, s1.heap.objs.size, s1.heap.objs.size + 1], _, _, H1, rfl, I2, turn_zipM sep, ⟨hz, hTI, ⟨_, _, hTO⟩, ⟨_, g1, rfl, rfl⟩, ⟨_, g2, rfl, rfl⟩⟩, fun c hcm => ?_, q⟩
  have hle : s1.heap.objs.size ≤ c := by
    simp only [List.mem_cons, List.not_mem_nil, or_false] at hcm
    rcases hcm with z | z | z | z | z
    · rw [z]; exact Nat.le_add_right _ _
    · rw [z]; exact Nat.le_add_right _ _
    · rw [z]; exact Nat.le_add_right _ _
    · rw [z]; exact Nat.le_refl _
    · rw [z]; exact Nat.le_add_right _ _
  exact I1.fpOk hle (I1.hok.fresh hle)
theorem itr_zipM {K : PySem.W.Frag} {w : W3} {a b : Addr} {d1 : D} {ds es : List PyData} (h : RepD K w (.ref a) d1) (h' : Dp K w.h (.ref b) (.tuple es)) : ItR K w (ItzM K a b) (zip3 ds es) fun S => lst3 S d1 = some ds := fun w' H S e r ok => by
  obtain ⟨a', xs, ea, hqa', ha, _⟩ := lst3_low r (h.mono0 e) ok
  obtain ⟨b', ys, eb, hqb, hb⟩ := dp_tup_ref (dp_mono e.h _ _ h')
  cases ea
  cases eb
  have hqb' := Same.sqT r.sub hqb
  have la := DpAll.length ha
  have lb := DpAll.length hb
  refine ⟨fun i hi => ⟨xs, ys, hqa', hqb', by rw [zip3_len] at hi; omega⟩, fun i x hx => ?_⟩
  obtain ⟨x1, x2, g1, g2, rfl⟩ := zip3_get hx
  obtain ⟨v1, k1, k2⟩ := DpAll.get ha g1
  obtain ⟨v2, k3, k4⟩ := DpAll.get hb g2
  refine ⟨⟨xs, ys, v1, v2, hqa', hqb', k1, k3⟩, fun v H' y => ?_⟩
  obtain ⟨T, y1, y2, rfl, hn, rfl, z1, z2⟩ := y
  have := (z1 _ hqa').symm.trans k1
  cases this
  have := (z2 _ hqb').symm.trans k3
  cases this
  exact pair_in r hn k2 k4
def tZipM3 (ta : TA3) : TI3 := fun env S Q => ta env S fun ds S1 => match ds with
  | [x, .p (.tuple ys)] => (match lst3 S1 x with
    | some xs => Q (zip3 xs ys) (fun S => lst3 S x = some xs) S1
    | _ => False)
  | _ => False
theorem qi_zipM {X : Cx} {e e2 : Expr} {ta : TA3} {p pos tpos : Pos} {elts : List Expr} {kk : Nat} (hg : Gl X "zip") (hm : X.mg "zip" = none) (ha : QA X [e, e2] ta)
    (hs : starEach [e, e2] X.env = (false, eval e X.env) :: starEach [e2] X.env := by rfl) (hpl : (backTo pos (starEach [e2] X.env)).any (·.1) = false := by rfl) :
    QI X (.Tuple elts kk tpos) (.Call (.Name "zip" p) [e, e2] [] pos) (tZipM3 ta) := (pi_zipM hg hm ha hs hpl).imp fun σ H R ⟨w, env, S, Q, r0, en, t, q⟩ => by
  refine ⟨w, env, S, _, r0, en, t, fun w1 vs ds H1 S1 e1 r1 p1 t1 => ?_⟩
  split at t1
  · obtain ⟨v, u, rfl, p2, p3⟩ := rds2 p1
    split at t1
    · rename_i xs' h1
      obtain ⟨a, xs, rfl, hqa, ha, hla⟩ := lst3_low r1 p2 h1
      obtain ⟨b, ys, rfl, hqb, hb⟩ := dp_tup_ref p3
      exact ⟨a, b, xs, ys, rfl, hqa, Same.sqT r1.sub hqb, q w1 _ H1 S1 _ _ e1 r1 (itr_zipM p2 p3) (by rw [zip3_len]; omega) t1⟩
    · exact t1.elim
  · exact t1.elim
end L3

/-! OT: zip of an own dict of tuple keys (locked) and a list. -/
namespace L3
open PySem PySem.Spec PyProof.Rows L2
section
variable {prog : Program} {w : World} {A : Around} {E : Value → Shared → Prop} {s : Shared}
theorem nextOf_key_item {it d : Addr} {i n ep : Nat} {od : Obj} {es : Array DictEntry} {en : DictEntry} {Q : Value → Shared → Prop} (hit : s.heap.IsKeyIter it d i n ep) (hod : s.heap.get? d = some od) (hdd : od.data = .dict es ep)
    (hsz : es.size = n) (hx : es[i]? = some en) (hQ : ∀ h', h'.IsKeyIter it d (i + 1) n ep → Heap.SameBut it s.heap h' → Q en.key { s with heap := h' }) : wpAny (model prog w) A (Builtin.SmallTypes.nextOf (.ref it)) Q E s := by
  obtain ⟨o, ho, hc, hd⟩ := id hit
  unfold Builtin.SmallTypes.nextOf
  refine wpAny_bind (wpAny_callSpecial?_slot (name := Str.ofString "__next__") hit.typeIs F.slot_dict_keyiterator_next
    (wpAny_call_entry F.slot_dict_keyiterator_next hit.typeIs F.entry_dict_keyiterator_next ?_ (F.args_dict_keyiterator_next_1 _)))
  refine wpAny_bind (wpAny_pure ?_)
  refine wpAny_bind ?_
  refine wpAny_bind ?_
  first | refine wpAny_bind (wpAny_typeNameOfWhole_keyiter hit.typeIs (wpAny_pure ?_)) | refine wpAny_bind (wpAny_typeNameOf_keyiter hit.typeIs (wpAny_pure ?_))
  refine wpAny_bind (wpAny_fieldsOf ho hd ?_)
  have hown : Builtin.Dict_items.ownsTuple "dict_keyiterator" = false := by decide
  simp only [hown, Bool.false_eq_true, if_false]
  show wpAny _ _ (if (Value.ref d == Value.none) = true then _ else _) _ _ s
  rw [if_neg (show ¬ ((Value.ref d == Value.none) = true) from Bool.false_ne_true)]
  refine wpAny_bind (wpAny_pure ?_)
  refine wpAny_bind (wpAny_dictEntries hod hdd ?_)
  rw [if_neg (by rw [hsz]; simp)]
  refine wpAny_bind (wpAny_pure ?_)
  refine wpAny_bind (wpAny_dictEpoch hod hdd ?_)
  rw [if_neg (by simp)]
  refine wpAny_pure ?_
  obtain ⟨hlt', hen⟩ := Array.getElem?_eq_some_iff.mp hx
  simp only [show ¬ ((i : Int) < 0) from by omega, if_false, Int.toNat_natCast, Array.getElem?_eq_getElem hlt']
  refine wpAny_bind ?_
  first | refine wpAny_bind (wpAny_typeNameOfWhole_keyiter hit.typeIs (wpAny_pure ?_)) | refine wpAny_bind (wpAny_typeNameOf_keyiter hit.typeIs (wpAny_pure ?_))
  refine wpAny_bind (wpAny_isOneOf_keyiter hit.typeIs ?_)
  show wpAny _ _ (setField (.ref it) 1 (rawInt ((i : Int) + 1)) >>= _) _ _ s
  refine wpAny_bind (wpAny_setField ho hd (by simp) ?_)
  have hit' : (s.heap.update it (Obj.mapFields (·.setIfInBounds 1 (rawInt ((i : Int) + 1))))).IsKeyIter it d (i + 1) n ep :=
    ⟨_, Heap.get?_update_self _ ho (Obj.isFreed_of_fields (Obj.data_mapFields hd _)), (Obj.cls_mapFields ..).trans hc, by rw [Obj.data_mapFields hd]; simp [rawInt]⟩
  refine wpAny_bind (wpAny_holding ?_)
  refine wpAny_bind (wpAny_isOneOf_keyiter (s := { s with heap := s.heap.update it (Obj.mapFields (·.setIfInBounds 1 (rawInt ((i : Int) + 1)))) }) hit'.typeIs ?_)
  show wpAny _ _ (pure es[i].key) _ _ _
  rw [hen]
  exact wpAny_pure (wpAny_pure ⟨_, rfl, wpAny_pure (hQ _ hit' (Heap.SameBut.update ..))⟩)
theorem nextOf_key_end {it d : Addr} {i n ep : Nat} {od : Obj} {es : Array DictEntry} {Q : Value → Shared → Prop} (hh : A.handled = none) (hit : s.heap.IsKeyIter it d i n ep) (hod : s.heap.get? d = some od) (hdd : od.data = .dict es ep)
    (hsz : es.size = n) (hge : n ≤ i) (hE : ∀ h' e, Heap.ExtBut it s.heap h' → (∃ o, h'.get? e = some o ∧ o.cls = .type "StopIteration") → E (.ref e) { s with heap := h' }) : wpAny (model prog w) A (Builtin.SmallTypes.nextOf (.ref it)) Q E s := by
  obtain ⟨o, ho, hc, hd⟩ := id hit
  unfold Builtin.SmallTypes.nextOf
  refine wpAny_bind (wpAny_callSpecial?_slot (name := Str.ofString "__next__") hit.typeIs F.slot_dict_keyiterator_next
    (wpAny_call_entry F.slot_dict_keyiterator_next hit.typeIs F.entry_dict_keyiterator_next ?_ (F.args_dict_keyiterator_next_1 _)))
  refine wpAny_bind (wpAny_pure ?_)
  refine wpAny_bind ?_
  refine wpAny_bind ?_
  first | refine wpAny_bind (wpAny_typeNameOfWhole_keyiter hit.typeIs (wpAny_pure ?_)) | refine wpAny_bind (wpAny_typeNameOf_keyiter hit.typeIs (wpAny_pure ?_))
  refine wpAny_bind (wpAny_fieldsOf ho hd ?_)
  have hown : Builtin.Dict_items.ownsTuple "dict_keyiterator" = false := by decide
  simp only [hown, Bool.false_eq_true, if_false]
  show wpAny _ _ (if (Value.ref d == Value.none) = true then _ else _) _ _ s
  rw [if_neg (show ¬ ((Value.ref d == Value.none) = true) from Bool.false_ne_true)]
  refine wpAny_bind (wpAny_pure ?_)
  refine wpAny_bind (wpAny_dictEntries hod hdd ?_)
  rw [if_neg (by rw [hsz]; simp)]
  refine wpAny_bind (wpAny_pure ?_)
  refine wpAny_bind (wpAny_dictEpoch hod hdd ?_)
  rw [if_neg (by simp)]
  refine wpAny_pure ?_
  have hge' : es.size ≤ i := by rw [hsz]; exact hge
  simp only [show ¬ ((i : Int) < 0) from by omega, if_false, Int.toNat_natCast, Array.getElem?_eq_none hge']
  refine wpAny_bind ?_
  first | refine wpAny_bind (wpAny_typeNameOfWhole_keyiter hit.typeIs (wpAny_pure ?_)) | refine wpAny_bind (wpAny_typeNameOf_keyiter hit.typeIs (wpAny_pure ?_))
  show wpAny _ _ (setField (.ref it) 0 .none >>= _) _ _ s
  refine wpAny_bind (wpAny_setField ho hd (by simp) ?_)
  show wpAny _ _ (newExc (.type "StopIteration") [] >>= _) _ _ _
  refine wpAny_bind ?_
  simp only [newExc, newTuple]
  refine wpAny_bind (wpAny_newObj_type ?_ (by size_fits))
  refine wpAny_bind (m := firstArgMember _ _) (wpAny_of_eq (a := Value.none) (by first | rfl | (simp only [firstArgMember]; rfl)) ?_)
  refine wpAny_newObj_type ?_ (by size_fits)
  simp only [raiseNew]
  refine wpAny_bind (wpAny_handled ?_)
  first | rw [show A.in1.handled = none from hh] | rw [hh]
  refine wpAny_bind (wpAny_pure (wpAny_throw ?_))
  exact hE _ _ (((Heap.SameBut.update ..).extBut.push _).push _) ⟨_, Heap.get?_push_size _ rfl, rfl⟩
end
theorem Draws.keysD {prog : Program} {w : World} {A : Around} (hh : A.handled = none) (it d : Addr) (hne : d ≠ it) {od : Obj} {es : Array DictEntry} {ep : Nat} (hdd : od.data = .dict es ep) :
    Draws prog w A it [it, d] es.size (fun i v => ∃ en : DictEntry, es[i]? = some en ∧ v = en.key) (fun i h => h.IsKeyIter it d i es.size ep ∧ h.get? d = some od) where
  live := fun _ _ st => let ⟨o, ho, _⟩ := st.1; ⟨o, ho⟩
  frame := fun _ _ _ st hk => ⟨st.1.at fun o e => hk it (by simp) o e, hk d (by simp) _ st.2⟩
  item := fun i s Q E hi st hQ => by
    refine nextOf_key_item st.1 st.2 hdd rfl (en := es[i]) (by simp [hi]) fun h' hit' hs' => ?_
    exact hQ _ h' s.toks ⟨_, by simp [hi], rfl⟩ ⟨hit', (hs'.2 d hne).trans st.2⟩ hs'
  done := fun s Q E st hE => nextOf_key_end hh st.1 st.2 hdd rfl (Nat.le_refl _) hE
theorem key_draws {prog : Program} {w : World} {A : Around} (hh : A.handled = none) {it d : Addr} (hne : d ≠ it) {od : Obj} {es : Array DictEntry} {ep i : Nat} {h : Heap} (hdd : od.data = .dict es ep) (hit : h.IsKeyIter it d i es.size ep) (hod : h.get? d = some od) :
    ∃ (n : Nat) (St : Nat → Heap → Prop), (i ≤ n ∧ (es.size ≤ i → i = n)) ∧ Draws prog w A it [it, d] n (fun j v => ∃ en : DictEntry, es[j]? = some en ∧ v = en.key) St ∧ St i h := by
  by_cases hi : i ≤ es.size
  · exact ⟨_, _, ⟨hi, fun z => Nat.le_antisymm hi z⟩, Draws.keysD hh it d hne hdd, hit, hod⟩
  · refine ⟨i, fun j h => j = i ∧ h.IsKeyIter it d i es.size ep ∧ h.get? d = some od, ⟨Nat.le_refl _, fun _ => rfl⟩, ⟨fun _ _ st => let ⟨o, ho, _⟩ := st.2.1; ⟨o, ho⟩, fun _ _ _ st hk => ⟨st.1, st.2.1.at fun o e => hk it (by simp) o e, hk d (by simp) _ st.2.2⟩, fun j s Q E hj st _ => absurd st.1 (Nat.ne_of_lt hj), fun s Q E st hE => nextOf_key_end hh st.2.1 st.2.2 hdd rfl (by omega) hE⟩, rfl, hit, hod⟩
theorem begins_keys {d : Addr} {o : Obj} {es : Array DictEntry} {ep : Nat} (hd : (d == sysModules) = false) (hc : o.ExactDict) (hdat : o.data = .dict es ep) :
    Begins (.ref d) { cls := .type "dict_keyiterator", data := .fields #[.ref d, .int 0 0, .int es.size 0, .int ep 0] } fun h => h.get? d = some o where
  iter := fun prog w A E s Q hl h => iter_keys hd hl hc hdat h
  keeps := fun h h' x hk => hk d _ x
  free := rfl
def ItzK (K : PySem.W.Frag) (d : Addr) (o : Obj) (kvs : List (List Key × V)) (b : Addr) : It :=
  ⟨fun i H => H d = some (.frz o (.dT kvs)) ∧ i < kvs.length ∧ ∃ (ys : List V) (y : V), SqL K H b ys ∧ ys[i]? = some y,
    fun i H v H' => ∃ T k v' q y, v = .ref T ∧ H T = none ∧ H' = upd H T (.tup [.ref q, y]) ∧ kvs[i]? = some (k, v') ∧ H q = some (.tup (k.map kV)) ∧ ∀ ys, SqL K H b ys → ys[i]? = some y,
    fun i H => H d = some (.frz o (.dT kvs)) ∧ ∃ ys : List V, SqL K H b ys ∧ (kvs.length ≤ i ∨ ys.length ≤ i)⟩
theorem turn_zipK {P : Program} {w : World} {K : PySem.W.Frag} {elts : List Expr} {kk : Nat} {tpos : Pos} {d b z TI TO i1 i2 : Addr} {o : Obj} {es : Array DictEntry} {ep : Nat} {kvs : List (List Key × V)} (S : ZipSep2 z TI TO i1 i2 [i1, d] [i2, b]) (hod : o.data = .dict es ep) :
    Turn P w K (.Tuple elts kk tpos) (ItzK K d o kvs b) [z, TI, TO, i1, i2] z (fun i h => IsZip h z TI TO .none ∧ IsTupOf2 h TI (.ref i1) (.ref i2) ∧ (∃ x y, IsTupOf2 h TO x y) ∧ h.IsKeyIter i1 d i es.size ep ∧ h.IsListIter i2 b i) := by
  constructor
  · simp
  · intro i h st c hc
    obtain ⟨hz, hTI, ⟨x, y, hTO⟩, ⟨o1, e1, _, d1⟩, ⟨o2, e2, _, d2⟩⟩ := st
    simp only [List.mem_cons, List.not_mem_nil, or_false] at hc
    rcases hc with q | q | q | q | q <;> subst q
    · exact ⟨_, hz, fun v q => nomatch q⟩
    · exact ⟨_, hTI, fun v q => nomatch q⟩
    · exact ⟨_, hTO, fun v q => nomatch q⟩
    · exact ⟨o1, e1, fun v q => by rw [d1] at q; cases q⟩
    · exact ⟨o2, e2, fun v q => by rw [d2] at q; cases q⟩
  · intro i h h' st k
    obtain ⟨hz, hTI, ⟨x, y, hTO⟩, h1, h2⟩ := st
    exact ⟨k z (by simp) _ hz, k TI (by simp) _ hTI, ⟨x, y, k TO (by simp) _ hTO⟩, h1.at fun o q => k i1 (by simp) o q, h2.at fun o q => k i2 (by simp) o q⟩
  · intro X hP hw hK hc i pins s σ H E I hf st hg
    subst hP hw hK
    obtain ⟨hz, hTI, ⟨x0, y0, hTO⟩, h1, h2⟩ := st
    obtain ⟨hdd, hi, ys, y, hqy, hy⟩ := hg
    obtain ⟨hs, hgd, hx, es', ep', hdt, hsz, ent⟩ := I.frzT hdd
    obtain ⟨rfl, rfl⟩ := dict_ep hod hdt
    obtain ⟨⟨k, v⟩, hkv⟩ : ∃ p, kvs[i]? = some p := ⟨kvs[i], List.getElem?_eq_getElem hi⟩
    obtain ⟨en, q, hen, hkey, hq⟩ := ent i k v hkv
    have hkey : en.key = .ref q := hkey
    obtain ⟨its2, rv2, p2, _⟩ := I.list hqy
    obtain ⟨u2, hu2, ru2⟩ := rv2.get hy
    have hzl : z < s.heap.objs.size := Heap.lt_size hz
    have ha1 : d ≠ i1 := fun q => by
      subst q
      obtain ⟨o', g, c, dd⟩ := h1
      rw [g] at hgd
      cases hgd
      rw [dd] at hod
      cases hod
    have hb2 : b ≠ i2 := fun q => by
      subst q
      obtain ⟨o, g, c, d⟩ := h2
      obtain ⟨o', g', c', _⟩ := p2.isList
      rw [g] at g'
      cases g'
      rw [c] at c'
      exact absurd c' (by decide)
    have hd : X.A.in1.handled = none := I.ok.hd hc
    have D1 := Draws.keysD (prog := X.prog) (w := X.w) hd i1 d ha1 hod
    have D2 := Draws.list (prog := X.prog) (w := X.w) hd i2 b hb2 its2.toArray
    refine wpAny_pyNext_zipD2_item S D1 D2 hz hTI hTO ⟨h1, hgd⟩ ⟨h2, p2.isList⟩ (Array.getElem?_eq_some_iff.mp hen).1 (by have := (List.getElem?_eq_some_iff.mp hu2).1; simpa using this) fun x1 x2 h' tk y1 y2 z' TO' g1 g2 hT hsz2 hk => ?_
    obtain ⟨en', hen', ex1⟩ := y1
    have ee : en' = en := by
      rw [hen] at hen'
      cases hen'
      rfl
    subst ee
    have ex2 : x2 = u2 := by simpa [hu2] using y2.symm
    subst ex1 ex2
    refine ⟨_, rfl, wpAny_letOwnedTupleGo_zip (s := { s with heap := h', toks := tk }) z' fun h'' z'' sb => ?_⟩
    have hT2 : h''.get? s.heap.objs.size = some { cls := .type "tuple", data := .seq #[en'.key, x2] } := (sb.2 _ (Nat.ne_of_gt hzl)).trans hT
    have new : ObjOk X.prog X.w (upd H s.heap.objs.size (.tup [.ref q, y])) h'' s.heap.objs.size (.tup [.ref q, y]) :=
      ⟨by show 2 ≤ sizeLine; decide, [en'.key, x2], .cons hkey (.cons ru2 .nil), ⟨_, hT2, rfl, _, rfl⟩⟩
    have I1 : L2.Inv X pins σ (upd H s.heap.objs.size (.tup [.ref q, y])) { s with heap := h'', toks := tk } :=
      I.turnedNew (t' := tk) (ch := [z, TI, TO, i1, i2]) (fun c o hb q => (sb.2 c (fun q' => hb (by simp [q']))).trans (hk c o (fun q' => hb (by simp [q'])) (fun q' => hb (by simp [q'])) (fun q' => hb (by simp [q'])) (fun q' => hb (by simp [q'])) q)) hf (Nat.le_refl _) new
    have lt : ∀ c ∈ [z, TI, TO, i1, i2], c < s.heap.objs.size := fun c hcm => by
      simp only [List.mem_cons, List.not_mem_nil, or_false] at hcm
      rcases hcm with q | q | q | q | q <;> subst q
      · exact hzl
      · exact Heap.lt_size hTI
      · exact Heap.lt_size hTO
      · obtain ⟨_, e1, _⟩ := h1; exact Heap.lt_size e1
      · obtain ⟨_, e2, _⟩ := h2; exact Heap.lt_size e2
    refine ⟨.ref s.heap.objs.size, _, I1, rfl, ⟨_, k, v, q, y, rfl, I.hok.fresh (Nat.le_refl _), rfl, hkv, hq, fun l hl => by rw [I.list_inj hl hqy]; exact hy⟩, ⟨z'', ?_, ⟨en'.key, x2, ?_⟩, ?_, ?_⟩, fun c hcm => ?_⟩
    · exact (sb.2 _ S.TIz).trans (hk _ _ S.TIz S.TITO S.TIi1 S.TIi2 hTI)
    · exact (sb.2 _ S.TOz).trans TO'
    · exact g1.1.at fun o q => (sb.2 _ S.zi1.symm).trans q
    · exact g2.1.at fun o q => (sb.2 _ S.zi2.symm).trans q
    · rw [upd_ne (Nat.ne_of_lt (lt c hcm))]
      exact (hf c hcm).1
  · intro X hP hw hK hc i pins s σ H E I hf st hg
    subst hP hw hK
    obtain ⟨hz, hTI, ⟨x0, y0, hTO⟩, h1, h2⟩ := st
    obtain ⟨hdd, ys, hqy, hend⟩ := hg
    obtain ⟨hs, hgd, hx, es', ep', hdt, hsz, ent⟩ := I.frzT hdd
    obtain ⟨rfl, rfl⟩ := dict_ep hod hdt
    obtain ⟨its2, rv2, p2, _⟩ := I.list hqy
    have l2 := rv2.length
    have ha1 : d ≠ i1 := fun q => by
      subst q
      obtain ⟨o', g, c, dd⟩ := h1
      rw [g] at hgd
      cases hgd
      rw [dd] at hod
      cases hod
    have hb2 : b ≠ i2 := fun q => by
      subst q
      obtain ⟨o, g, c, d⟩ := h2
      obtain ⟨o', g', c', _⟩ := p2.isList
      rw [g] at g'
      cases g'
      rw [c] at c'
      exact absurd c' (by decide)
    have hd : X.A.in1.handled = none := I.ok.hd hc
    obtain ⟨n1, St1, q1, D1, u1⟩ := key_draws (prog := X.prog) (w := X.w) hd ha1 hod h1 hgd
    obtain ⟨n2, St2, q2, D2, u2⟩ := list_draws (prog := X.prog) (w := X.w) hd hb2 h2 p2.isList
    refine wpAny_pyNext_zipD2_end S D1 D2 hz hTI hTO u1 u2 q1.1 q2.1 (hend.elim (fun q => .inl (q1.2 (by omega))) fun q => .inr (q2.2 (by simp; omega))) fun h' tk hk => ⟨rfl, I.turnedL (t' := tk) (ch := [z, TI, TO, i1, i2]) (fun c o hb q =>
      hk c o (fun q' => hb (by simp [q'])) (fun q' => hb (by simp [q'])) (fun q' => hb (by simp [q'])) (fun q' => hb (by simp [q'])) q) hf⟩
  · exact fun A i s Q E st h => wpAny_pyIter_zip st.1 h
def iZipK (K : PySem.W.Frag) (ta : TA) : TI := fun σ H R => ta σ H fun vs H1 => ∃ d o kvs b ys, vs = [.ref d, .ref b] ∧ H1 d = some (.frz o (.dT kvs)) ∧ SqL K H1 b ys ∧ R (ItzK K d o kvs b) H1
theorem pi_zipK {X : Cx} {e e2 : Expr} {ta : TA} {p pos tpos : Pos} {elts : List Expr} {kk : Nat} (hg : Gl X "zip") (hm : X.mg "zip" = none) (ha : PA X [e, e2] ta)
    (hs : starEach [e, e2] X.env = (false, eval e X.env) :: starEach [e2] X.env := by rfl) (hpl : (backTo pos (starEach [e2] X.env)).any (·.1) = false := by rfl) :
    PI X (.Tuple elts kk tpos) (.Call (.Name "zip" p) [e, e2] [] pos) (iZipK X.K ta) := by
  refine ⟨fun pins s σ H R I h => ?_⟩
  refine Call_ (ld_blt I hg hm PyProof.Rows.boot_zip (PyProof.Rows.callWith_type1 (thn (ha.run pos pins s σ H _ I h) fun us s1 ⟨vs, H1, I1, r1, q1⟩ => ?_) hs hpl))
  obtain ⟨d, o, kvs, b, ys, ex, hdd, hqy, q⟩ := q1
  subst ex
  cases r1 with
  | cons r rr =>
  cases rr with
  | cons r' rr =>
  cases rr
  cases r
  cases r'
  obtain ⟨hs', hgd, hx, es, ep, hdt, hsz, ent⟩ := I1.frzT hdd
  obtain ⟨its2, rv2, p2, _⟩ := I1.list hqy
  have la : d < s1.heap.objs.size := Heap.lt_size hgd
  have lb : b < s1.heap.objs.size := p2.lt
  refine zip_begins2 (begins_keys hs' hx hdt) (begins_list b its2.toArray) hgd p2.isList fun h' hz hTI hTO g1 g2 hsz2 hk => wpAny_pyIter_zip hz ?_
  have I2 : L2.Inv X pins σ H1 { s1 with heap := h' } := I1.kept (t' := s1.toks) hk
  have sep : ZipSep2 (s1.heap.objs.size + 4) (s1.heap.objs.size + 2) (s1.heap.objs.size + 3) s1.heap.objs.size (s1.heap.objs.size + 1) [s1.heap.objs.size, d] [s1.heap.objs.size + 1, b] :=
    zip_sep2 (fun c hc => by rw [List.mem_singleton.mp hc]; exact la) (fun c hc => by rw [List.mem_singleton.mp hc]; exact lb)
  refine ⟨s1.heap.objs.size + 4, [s1.heap.objs.size + 4, s1.heap.objs.size + 2, s1.heap.objs.size + 3, s1.heap.objs.size, s1.heap.objs.size + 1], _, _, H1, rfl, I2, turn_zipK sep hdt, ⟨hz, hTI, ⟨_, _, hTO⟩, ⟨_, g1, rfl, rfl⟩, ⟨_, g2, rfl, rfl⟩⟩, fun c hcm => ?_, q⟩
  have hle : s1.heap.objs.size ≤ c := by
    simp only [List.mem_cons, List.not_mem_nil, or_false] at hcm
    rcases hcm with z | z | z | z | z
    · rw [z]; exact Nat.le_add_right _ _
    · rw [z]; exact Nat.le_add_right _ _
    · rw [z]; exact Nat.le_add_right _ _
    · rw [z]; exact Nat.le_refl _
    · rw [z]; exact Nat.le_add_right _ _
  exact I1.fpOk hle (I1.hok.fresh hle)
theorem itr_zipK {K : PySem.W.Frag} {w : W3} {a b : Addr} {n : Nat} {od : Obj} {kxs : List (List Key × V)} {kvs : List (List Key × PyData)} {d2 : D} {es : List PyData} (ha : w.al[n]? = some a) (hz : ∀ p ∈ kvs, p.1.length ≤ sizeLine) (h' : RepD K w (.ref b) d2) :
    ItR K w (ItzK K a od kxs b) (zip3 (kvs.map fun p => keyPd p.1) es) fun S => S[n]? = some (some (.dif od kxs kvs)) ∧ lst3 S d2 = some es := fun w' H S e r ok => by
  obtain ⟨_, u, hu, rfl, hp⟩ := r.live n a _ (e.get ha) ok.1
  have hl : kxs.length = kvs.length := Paired.length hp
  obtain ⟨b', ys, eb, hqb, hb, _⟩ := lst3_low r (h'.mono0 e) ok.2
  cases eb
  have lb := DpAll.length hb
  refine ⟨fun i hi => ⟨hu, ys, hqb, by rw [zip3_len, List.length_map] at hi; omega⟩, fun i x hx => ?_⟩
  obtain ⟨x1, x2, g1, g2, rfl⟩ := zip3_get hx
  rw [List.getElem?_map] at g1
  obtain ⟨p, hpi, rfl⟩ := Option.map_eq_some_iff.mp g1
  have hil := (List.getElem?_eq_some_iff.mp hpi).1
  obtain ⟨v2, k3, k4⟩ := DpAll.get hb g2
  refine ⟨⟨hu, by omega, ys, v2, hqb, k3⟩, fun v H' y => ?_⟩
  obtain ⟨T, k, v', q, y2, rfl, hn, rfl, h1, hq, z2⟩ := y
  have hk : k = p.1 := (pairT_get hp h1 hpi).1
  subst hk
  have := (z2 _ hqb).symm.trans k3
  cases this
  obtain ⟨r2, e2⟩ := r.tup hq (by rw [List.length_map]; exact hz p (List.mem_of_getElem? hpi))
  obtain ⟨w3, e3, r3, p3⟩ := pair_in r2 hn (dp_keyPd upd_same) (dp_mono e2.h _ _ k4)
  exact ⟨w3, e2.trans e3, r3, p3⟩
def tZipK3 (ta : TA3) : TI3 := fun env S Q => ta env S fun ds S1 => match ds with
  | [.loc n, x] => (match S1[n]?, lst3 S1 x with
    | some (some (.dif od kxs kvs)), some ys => (∀ p ∈ kvs, p.1.length ≤ 16777216) ∧ Q (zip3 (kvs.map fun p => keyPd p.1) ys) (fun S => S[n]? = some (some (.dif od kxs kvs)) ∧ lst3 S x = some ys) S1
    | _, _ => False)
  | _ => False
theorem qi_zipK {X : Cx} {e e2 : Expr} {ta : TA3} {p pos tpos : Pos} {elts : List Expr} {kk : Nat} (hg : Gl X "zip") (hm : X.mg "zip" = none) (ha : QA X [e, e2] ta)
    (hs : starEach [e, e2] X.env = (false, eval e X.env) :: starEach [e2] X.env := by rfl) (hpl : (backTo pos (starEach [e2] X.env)).any (·.1) = false := by rfl) :
    QI X (.Tuple elts kk tpos) (.Call (.Name "zip" p) [e, e2] [] pos) (tZipK3 ta) := (pi_zipK hg hm ha hs hpl).imp fun σ H R ⟨w, env, S, Q, r0, en, t, q⟩ => by
  have hz : sizeLine = 16777216 := sizeLine_eq
  refine ⟨w, env, S, _, r0, en, t, fun w1 vs ds H1 S1 e1 r1 p1 t1 => ?_⟩
  split at t1
  · obtain ⟨v, u, rfl, p2, p3⟩ := rds2 p1
    split at t1
    · rename_i od kxs kvs ys hs1 h1
      obtain ⟨a, ha', rfl⟩ := p2
      obtain ⟨_, uu, hu, rfl, hp⟩ := r1.live _ a _ ha' hs1
      obtain ⟨b, ys', rfl, hqb, hb, hlb⟩ := lst3_low r1 p3 h1
      exact ⟨a, od, kxs, b, ys', rfl, hu, hqb, q w1 _ H1 S1 _ _ e1 r1 (itr_zipK ha' (fun p hp => by have := t1.1 p hp; omega) p3) (by rw [zip3_len]; omega) t1.2⟩
    · exact t1.elim
  · exact t1.elim
end L3

/-! OA: o[i], o2[i2] = a, b: own lists of data. -/
namespace L3
open PySem PySem.Spec PyProof.Rows L2
def tSwap3 (ta : TA3) (to ti to2 ti2 : TE3) : TS3 := fun D env S => ta env S fun vs S1 => match vs with
  | [v, u] => to env S1 fun o S2 => ti env S2 fun i S3 => (match own3 S3 o, i, v with
    | some (n, ds), .p (.int k), .p d => (match ixN ds.length k with
      | some j => to2 env (S3.set n (some (.lst (ds.set j d)))) fun o2 S4 => ti2 env S4 fun i2 S5 => (match own3 S5 o2, i2, u with
        | some (n2, ds2), .p (.int k2), .p d2 => (match ixN ds2.length k2 with
          | some j2 => D.nx env (S5.set n2 (some (.lst (ds2.set j2 d2))))
          | none => False)
        | _, _, _ => False)
      | none => False)
    | _, _, _ => False)
  | _ => False
section
variable {X : Cx} {o i o2 i2 a b : Expr} {to ti to2 ti2 : TE3} {ta : TA3} {pos ps1 ps2 pt pt2 : Pos} {kt k2 : Nat}
theorem qs_swap (hc : X.calm = true) (ha : QA X [a, b] ta) (ho : QE X o to) (hi : QE X i ti) (ho2 : QE X o2 to2) (hi2 : QE X i2 ti2)
    (ha1 : ∀ v, assign (.Subscript o i ps1) X.env v = (do
      let ov ← holding [v] (eval o X.env)
      let iv ← holding [v, ov] (eval i X.env)
      standAt ps1
      holding [v, ov, iv] (setItem ov iv v)
      release [v, ov, iv] []) := by intro _; rfl)
    (ha2 : ∀ v, assign (.Subscript o2 i2 ps2) X.env v = (do
      let ov ← holding [v] (eval o2 X.env)
      let iv ← holding [v, ov] (eval i2 X.env)
      standAt ps2
      holding [v, ov, iv] (setItem ov iv v)
      release [v, ov, iv] []) := by intro _; rfl)
    (hs : swapsWithSole [.Tuple [.Subscript o i ps1, .Subscript o2 i2 ps2] kt pt] (.Tuple [a, b] k2 pt2) pos.line X.env = pure false := by rfl)
    (hw : swappedStores [.Tuple [.Subscript o i ps1, .Subscript o2 i2 ps2] kt pt] (.Tuple [a, b] k2 pt2) X.env = pure none := by rfl)
    (h1 : (assignEach [.Tuple [.Subscript o i ps1, .Subscript o2 i2 ps2] kt pt] X.env).map (·.2) = [assign (.Tuple [.Subscript o i ps1, .Subscript o2 i2 ps2] kt pt) X.env] := by rfl)
    (hs1 : (assignEach [.Subscript o i ps1, .Subscript o2 i2 ps2] X.env).map (·.2) = assign (.Subscript o i ps1) X.env :: (assignEach [.Subscript o2 i2 ps2] X.env).map (·.2) := by rfl)
    (hs2 : (assignEach [.Subscript o2 i2 ps2] X.env).map (·.2) = assign (.Subscript o2 i2 ps2) X.env :: (assignEach [] X.env).map (·.2) := by rfl)
    (hn : (assignEach [.Subscript o i ps1, .Subscript o2 i2 ps2] X.env).length = 2 := by rfl) (hst : (assignEach [.Subscript o i ps1, .Subscript o2 i2 ps2] X.env).findIdx? (·.1) = none := by rfl) :
    QS X (.Assign [.Tuple [.Subscript o i ps1, .Subscript o2 i2 ps2] kt pt] (.Tuple [a, b] k2 pt2) pos) (tSwap3 ta to ti to2 ti2) :=
  (ps_asg (pe_tup ha) (pg_tup hc (pgs_cons (pg_sub ho hi set_list ha1) (pgs_cons (pg_sub ho2 hi2 set_list ha2) pgs_nil hs2) hs1) hn hst) hs hw h1).imp fun D σ H ⟨w, env, S, D3, r, en, t, q⟩ => by
  refine ⟨w, env, S, _, r, en, t, fun w1 vs ds H1 S1 e1 r1 p1 t1 => ?_⟩
  have h2 : 2 ≤ sizeLine := by rw [sizeLine_eq]; decide
  match vs, ds, p1, t1 with
  | [v, u], [x, y], p1, t1 =>
    refine ⟨h2, fun p hnn => ?_⟩
    obtain ⟨r2, e2⟩ := r1.frz (u := .tup [v, u]) hnn h2
    refine ⟨p, [v, u], rfl, .inl (.inl upd_same), rfl, v, [u], rfl, ?_⟩
    have en2 := en.mono (e1.trans e2)
    have pv := p1.1.mono e2
    have pu := p1.2.1.mono e2
    refine ⟨_, env, S1, _, r2, en2, t1, fun w3 ov od H3 S3 e3 r3 p3 t3 => ?_⟩
    refine ⟨w3, env, S3, _, r3, en2.mono e3, t3, fun w4 iv id H4 S4 e4 r4 p4 t4 => ?_⟩
    have p3' := p3.mono e4
    have pv' := (pv.mono e3).mono e4
    split at t4
    rotate_left
    · exact t4.elim
    rename_i n ds1 k d ho1
    split at t4
    rotate_left
    · exact t4.elim
    rename_i j hj
    obtain ⟨a1, xs, rfl, rfl, hal, hsl, hu, hd, hz⟩ := own3_low r4 p3' ho1
    refine ⟨a1, xs, k, j, rfl, dp_int p4, hu, by rw [DpAll.length hd]; exact hj, ?_⟩
    have r5 := r4.put (o' := .lst (ds1.set j d)) hal hsl ⟨_, rfl, DpAll.set pv' j hd, by rw [List.length_set]; exact hz⟩
    have en5 := (en2.mono e3).mono e4
    have pu5 := (pu.mono e3).mono e4
    refine ⟨u, [], rfl, ?_⟩
    refine ⟨w4, env, _, _, r5, en5, t4, fun w6 ov2 od2 H6 S6 e6 r6 p6 t6 => ?_⟩
    refine ⟨w6, env, S6, _, r6, en5.mono e6, t6, fun w7 iv2 id2 H7 S7 e7 r7 p7 t7 => ?_⟩
    have p6' := p6.mono e7
    have pu' := (pu5.mono e6).mono e7
    split at t7
    rotate_left
    · exact t7.elim
    rename_i n2 ds2 k2' d2 ho2'
    split at t7
    rotate_left
    · exact t7.elim
    rename_i j2 hj2
    obtain ⟨a2, xs2, rfl, rfl, hal2, hsl2, hu2, hd2, hz2⟩ := own3_low r7 p6' ho2'
    refine ⟨a2, xs2, k2', j2, rfl, dp_int p7, hu2, by rw [DpAll.length hd2]; exact hj2, rfl, ?_⟩
    exact q.nx w7 σ _ env _ (((((e1.trans e2).trans e3).trans e4).trans e6).trans e7) (r7.put (o' := .lst (ds2.set j2 d2)) hal2 hsl2 ⟨_, rfl, DpAll.set pu' j2 hd2, by rw [List.length_set]; exact hz2⟩) ((en5.mono e6).mono e7) t7
  | [], [x, y], p1, _ => exact p1.elim
  | [_], [x, y], p1, _ => exact p1.2.elim
  | _ :: _ :: _ :: _, [x, y], p1, _ => exact p1.2.2.elim
end
end L3

namespace G_k59
open PySem PySem.Spec PyProof.Rows L2 L3
def topS (i : Nat) : Stmt := PySem.Challenge.pw_windowfloor_k59_whole_one_of_both.main.body.getD i (.Pass ⟨0, 0, 0, 0⟩)
abbrev s_is_number : Stmt := topS 1
abbrev nm_is_number : List Str := ["thing", "bound"]
theorem sc_is_number : FnScope nm_is_number ["thing", "bound"] (defScope s_is_number) := ⟨rfl, rfl, rfl, by decide +kernel, rfl, by decide +kernel, by decide +kernel⟩
abbrev s_are_numbers : Stmt := topS 2
abbrev nm_are_numbers : List Str := ["thing", "bound", "one"]
theorem sc_are_numbers : FnScope nm_are_numbers ["thing", "bound"] (defScope s_are_numbers) := ⟨rfl, rfl, rfl, by decide +kernel, rfl, by decide +kernel, by decide +kernel⟩
abbrev s_one_step : Stmt := topS 3
abbrev nm_one_step : List Str := ["machine", "state", "k", "taps", "tap", "one"]
theorem sc_one_step : FnScope nm_one_step ["machine", "state"] (defScope s_one_step) := ⟨rfl, rfl, rfl, by decide +kernel, rfl, by decide +kernel, by decide +kernel⟩
abbrev s_round_of : Stmt := topS 4
abbrev nm_round_of : List Str := ["machine", "state", "found", "here"]
theorem sc_round_of : FnScope nm_round_of ["machine", "state"] (defScope s_round_of) := ⟨rfl, rfl, rfl, by decide +kernel, rfl, by decide +kernel, by decide +kernel⟩
abbrev s_units : Stmt := topS 5
abbrev nm_units : List Str := ["machine", "many", "at"]
theorem sc_units : FnScope nm_units ["machine"] (defScope s_units) := ⟨rfl, rfl, rfl, by decide +kernel, rfl, by decide +kernel, by decide +kernel⟩
abbrev s_shown : Stmt := topS 7
abbrev nm_shown : List Str := ["machine", "pattern", "state", "states", "number"]
theorem sc_shown : FnScope nm_shown ["machine", "pattern", "state"] (defScope s_shown) := ⟨rfl, rfl, rfl, by decide +kernel, rfl, by decide +kernel, by decide +kernel⟩
abbrev s_parted_by : Stmt := topS 8
abbrev nm_parted_by : List Str := ["number", "k", "one"]
theorem sc_parted_by : FnScope nm_parted_by ["number", "k"] (defScope s_parted_by) := ⟨rfl, rfl, rfl, by decide +kernel, rfl, by decide +kernel, by decide +kernel⟩
abbrev s_scaled : Stmt := topS 9
abbrev nm_scaled : List Str := ["row", "by", "k", "one"]
theorem sc_scaled : FnScope nm_scaled ["row", "by", "k"] (defScope s_scaled) := ⟨rfl, rfl, rfl, by decide +kernel, rfl, by decide +kernel, by decide +kernel⟩
abbrev s_less_so_many : Stmt := topS 10
abbrev nm_less_so_many : List Str := ["row", "other", "by", "k", "one", "two"]
theorem sc_less_so_many : FnScope nm_less_so_many ["row", "other", "by", "k"] (defScope s_less_so_many) := ⟨rfl, rfl, rfl, by decide +kernel, rfl, by decide +kernel, by decide +kernel⟩
abbrev s_reduce_rows : Stmt := topS 11
abbrev nm_reduce_rows : List Str := ["rows", "wide", "k", "places", "place", "top", "at", "some"]
theorem sc_reduce_rows : FnScope nm_reduce_rows ["rows", "wide", "k"] (defScope s_reduce_rows) := ⟨rfl, rfl, rfl, by decide +kernel, rfl, by decide +kernel, by decide +kernel⟩
abbrev s_judged : Stmt := topS 12
abbrev nm_judged : List Str := ["machine", "pattern", "k", "wide", "rows", "places", "paper", "at", "factors", "row", "place", "unit"]
theorem sc_judged : FnScope nm_judged ["machine", "pattern"] (defScope s_judged) := ⟨rfl, rfl, rfl, by decide +kernel, rfl, by decide +kernel, by decide +kernel⟩
abbrev s_summed : Stmt := topS 14
abbrev nm_summed : List Str := ["paper", "signs", "k", "factors", "factor", "sign"]
theorem sc_summed : FnScope nm_summed ["paper", "signs", "k"] (defScope s_summed) := ⟨rfl, rfl, rfl, by decide +kernel, rfl, by decide +kernel, by decide +kernel⟩
abbrev s_shows_sees : Stmt := topS 15
abbrev nm_shows_sees : List Str := ["machine", "pattern", "paper", "k", "taps", "factors", "unit"]
theorem sc_shows_sees : FnScope nm_shows_sees ["machine", "pattern", "paper"] (defScope s_shows_sees) := ⟨rfl, rfl, rfl, by decide +kernel, rfl, by decide +kernel, by decide +kernel⟩
abbrev s_shows_blind : Stmt := topS 16
abbrev nm_shows_blind : List Str := ["machine", "pattern", "state", "k", "taps"]
theorem sc_shows_blind : FnScope nm_shows_blind ["machine", "pattern", "state"] (defScope s_shows_blind) := ⟨rfl, rfl, rfl, by decide +kernel, rfl, by decide +kernel, by decide +kernel⟩
abbrev s_shows_judged : Stmt := topS 17
abbrev nm_shows_judged : List Str := ["machine", "pattern", "thing"]
theorem sc_shows_judged : FnScope nm_shows_judged ["machine", "pattern", "thing"] (defScope s_shows_judged) := ⟨rfl, rfl, rfl, by decide +kernel, rfl, by decide +kernel, by decide +kernel⟩
abbrev s__law_hand : Stmt := topS 19
abbrev nm__law_hand : List Str := ["_law_script", "_law_k", "_law_cell", "_law_great"]
theorem sc__law_hand : FnScope nm__law_hand ["_law_script", "_law_k"] (defScope s__law_hand) := ⟨rfl, rfl, rfl, by decide +kernel, rfl, by decide +kernel, by decide +kernel⟩
abbrev s__law_take : Stmt := topS 20
abbrev nm__law_take : List Str := ["_law_hand_here", "_law_many", "_law_digit", "_law_mixed"]
theorem sc__law_take : FnScope nm__law_take ["_law_hand_here", "_law_many"] (defScope s__law_take) := ⟨rfl, rfl, rfl, by decide +kernel, rfl, by decide +kernel, by decide +kernel⟩
abbrev s__law_pick : Stmt := topS 21
abbrev nm__law_pick : List Str := ["_law_hand_here", "_law_some"]
theorem sc__law_pick : FnScope nm__law_pick ["_law_hand_here", "_law_some"] (defScope s__law_pick) := ⟨rfl, rfl, rfl, by decide +kernel, rfl, by decide +kernel, by decide +kernel⟩
abbrev s__law_machine : Stmt := topS 22
abbrev nm__law_machine : List Str := ["_law_hand_here", "_law_k", "_law_most", "_law_many", "_law_taps", "_law_at"]
theorem sc__law_machine : FnScope nm__law_machine ["_law_hand_here"] (defScope s__law_machine) := ⟨rfl, rfl, rfl, by decide +kernel, rfl, by decide +kernel, by decide +kernel⟩
abbrev s__law_step : Stmt := topS 23
abbrev nm__law_step : List Str := ["_law_machine_here", "_law_state", "_law_k", "_law_taps", "_law_total", "_law_tap", "_law_one"]
theorem sc__law_step : FnScope nm__law_step ["_law_machine_here", "_law_state"] (defScope s__law_step) := ⟨rfl, rfl, rfl, by decide +kernel, rfl, by decide +kernel, by decide +kernel⟩
abbrev s__law_round : Stmt := topS 24
abbrev nm__law_round : List Str := ["_law_machine_here", "_law_state", "_law_found", "_law_here"]
theorem sc__law_round : FnScope nm__law_round ["_law_machine_here", "_law_state"] (defScope s__law_round) := ⟨rfl, rfl, rfl, by decide +kernel, rfl, by decide +kernel, by decide +kernel⟩
abbrev s__law_pattern : Stmt := topS 25
abbrev nm__law_pattern : List Str := ["_law_hand_here", "_law_most", "_law_found", "_law_sizes", "_law_at", "_law_way", "_law_near", "_law_far", "_law_some"]
theorem sc__law_pattern : FnScope nm__law_pattern ["_law_hand_here", "_law_most"] (defScope s__law_pattern) := ⟨rfl, rfl, rfl, by decide +kernel, rfl, by decide +kernel, by decide +kernel⟩
abbrev s__law_states : Stmt := topS 26
abbrev nm__law_states : List Str := ["_law_machine_here", "_law_k", "_law_taps", "_law_found", "_law_tap", "_law_longer", "_law_state", "_law_number"]
theorem sc__law_states : FnScope nm__law_states ["_law_machine_here"] (defScope s__law_states) := ⟨rfl, rfl, rfl, by decide +kernel, rfl, by decide +kernel, by decide +kernel⟩
abbrev s__law_places : Stmt := topS 27
abbrev nm__law_places : List Str := ["_law_machine_here", "_law_found", "_law_state", "_law_states_here", "_law_at", "_law_here"]
theorem sc__law_places : FnScope nm__law_places ["_law_machine_here"] (defScope s__law_places) := ⟨rfl, rfl, rfl, by decide +kernel, rfl, by decide +kernel, by decide +kernel⟩
abbrev s__law_shows : Stmt := topS 28
abbrev nm__law_shows : List Str := ["_law_places_here", "_law_pattern_here", "_law_state", "_law_states_here", "_law_at", "_law_number"]
theorem sc__law_shows : FnScope nm__law_shows ["_law_places_here", "_law_pattern_here", "_law_state"] (defScope s__law_shows) := ⟨rfl, rfl, rfl, by decide +kernel, rfl, by decide +kernel, by decide +kernel⟩
abbrev s__law_paper : Stmt := topS 29
abbrev nm__law_paper : List Str := ["_law_hand_here", "_law_machine_here", "_law_pattern_here", "_law_k", "_law_paper_here", "_law_at", "_law_spot", "_law_factors", "_law_number"]
theorem sc__law_paper : FnScope nm__law_paper ["_law_hand_here", "_law_machine_here", "_law_pattern_here"] (defScope s__law_paper) := ⟨rfl, rfl, rfl, by decide +kernel, rfl, by decide +kernel, by decide +kernel⟩
abbrev s_law : Stmt := topS 30
abbrev nm_law : List Str := ["_law_script", "_law_k", "_law_hand_here", "_law_machine_here", "_law_places_here", "_law_turn", "_law_pattern_here", "_law_state", "_law_shows_here", "_law_sees", "_law_told", "_law_due", "_law_found", "_law_more", "_law_paper_here"]
theorem sc_law : FnScope nm_law ["_law_script"] (defScope s_law) := ⟨rfl, rfl, rfl, by decide +kernel, rfl, by decide +kernel, by decide +kernel⟩
/-- what stands behind the top -/
structure Txt (K : PySem.W.Frag) (mg : Str → Option Value) (base : Heap) : Prop where
  nt : NoTK K
  b_all : mg "all" = none
  b_any : mg "any" = none
  b_bool : mg "bool" = none
  b_enumerate : mg "enumerate" = none
  b_int : mg "int" = none
  b_isinstance : mg "isinstance" = none
  b_len : mg "len" = none
  b_max : mg "max" = none
  b_min : mg "min" = none
  b_range : mg "range" = none
  b_set : mg "set" = none
  b_str : mg "str" = none
  b_sum : mg "sum" = none
  b_tuple : mg "tuple" = none
  b_zip : mg "zip" = none
  f_is_number : ∃ f fd, Fun K "is_number" "is_number" s_is_number f fd ∧ mg "is_number" = some (.ref f) ∧ Binds K fd ["thing", "bound"] []
  f_are_numbers : ∃ f fd, Fun K "are_numbers" "are_numbers" s_are_numbers f fd ∧ mg "are_numbers" = some (.ref f) ∧ Binds K fd ["thing", "bound"] []
  f_one_step : ∃ f fd, Fun K "one_step" "one_step" s_one_step f fd ∧ mg "one_step" = some (.ref f) ∧ Binds K fd ["machine", "state"] []
  f_round_of : ∃ f fd, Fun K "round_of" "round_of" s_round_of f fd ∧ mg "round_of" = some (.ref f) ∧ Binds K fd ["machine", "state"] []
  f_units : ∃ f fd, Fun K "units" "units" s_units f fd ∧ mg "units" = some (.ref f) ∧ Binds K fd ["machine"] []
  f_shown : ∃ f fd, Fun K "shown" "shown" s_shown f fd ∧ mg "shown" = some (.ref f) ∧ Binds K fd ["machine", "pattern", "state"] []
  f_parted_by : ∃ f fd, Fun K "parted_by" "parted_by" s_parted_by f fd ∧ mg "parted_by" = some (.ref f) ∧ Binds K fd ["number", "k"] []
  f_scaled : ∃ f fd, Fun K "scaled" "scaled" s_scaled f fd ∧ mg "scaled" = some (.ref f) ∧ Binds K fd ["row", "by", "k"] []
  f_less_so_many : ∃ f fd, Fun K "less_so_many" "less_so_many" s_less_so_many f fd ∧ mg "less_so_many" = some (.ref f) ∧ Binds K fd ["row", "other", "by", "k"] []
  f_reduce_rows : ∃ f fd, Fun K "reduce_rows" "reduce_rows" s_reduce_rows f fd ∧ mg "reduce_rows" = some (.ref f) ∧ Binds K fd ["rows", "wide", "k"] []
  f_judged : ∃ f fd, Fun K "judged" "judged" s_judged f fd ∧ mg "judged" = some (.ref f) ∧ Binds K fd ["machine", "pattern"] []
  f_summed : ∃ f fd, Fun K "summed" "summed" s_summed f fd ∧ mg "summed" = some (.ref f) ∧ Binds K fd ["paper", "signs", "k"] []
  f_shows_sees : ∃ f fd, Fun K "shows_sees" "shows_sees" s_shows_sees f fd ∧ mg "shows_sees" = some (.ref f) ∧ Binds K fd ["machine", "pattern", "paper"] []
  f_shows_blind : ∃ f fd, Fun K "shows_blind" "shows_blind" s_shows_blind f fd ∧ mg "shows_blind" = some (.ref f) ∧ Binds K fd ["machine", "pattern", "state"] []
  f_shows_judged : ∃ f fd, Fun K "shows_judged" "shows_judged" s_shows_judged f fd ∧ mg "shows_judged" = some (.ref f) ∧ Binds K fd ["machine", "pattern", "thing"] []
  f__law_hand : ∃ f fd, Fun K "_law_hand" "_law_hand" s__law_hand f fd ∧ mg "_law_hand" = some (.ref f) ∧ Binds K fd ["_law_script", "_law_k"] []
  f__law_take : ∃ f fd, Fun K "_law_take" "_law_take" s__law_take f fd ∧ mg "_law_take" = some (.ref f) ∧ Binds K fd ["_law_hand_here", "_law_many"] []
  f__law_pick : ∃ f fd, Fun K "_law_pick" "_law_pick" s__law_pick f fd ∧ mg "_law_pick" = some (.ref f) ∧ Binds K fd ["_law_hand_here", "_law_some"] []
  f__law_machine : ∃ f fd, Fun K "_law_machine" "_law_machine" s__law_machine f fd ∧ mg "_law_machine" = some (.ref f) ∧ Binds K fd ["_law_hand_here"] []
  f__law_step : ∃ f fd, Fun K "_law_step" "_law_step" s__law_step f fd ∧ mg "_law_step" = some (.ref f) ∧ Binds K fd ["_law_machine_here", "_law_state"] []
  f__law_round : ∃ f fd, Fun K "_law_round" "_law_round" s__law_round f fd ∧ mg "_law_round" = some (.ref f) ∧ Binds K fd ["_law_machine_here", "_law_state"] []
  f__law_pattern : ∃ f fd, Fun K "_law_pattern" "_law_pattern" s__law_pattern f fd ∧ mg "_law_pattern" = some (.ref f) ∧ Binds K fd ["_law_hand_here", "_law_most"] []
  f__law_states : ∃ f fd, Fun K "_law_states" "_law_states" s__law_states f fd ∧ mg "_law_states" = some (.ref f) ∧ Binds K fd ["_law_machine_here"] []
  f__law_places : ∃ f fd, Fun K "_law_places" "_law_places" s__law_places f fd ∧ mg "_law_places" = some (.ref f) ∧ Binds K fd ["_law_machine_here"] []
  f__law_shows : ∃ f fd, Fun K "_law_shows" "_law_shows" s__law_shows f fd ∧ mg "_law_shows" = some (.ref f) ∧ Binds K fd ["_law_places_here", "_law_pattern_here", "_law_state"] []
  f__law_paper : ∃ f fd, Fun K "_law_paper" "_law_paper" s__law_paper f fd ∧ mg "_law_paper" = some (.ref f) ∧ Binds K fd ["_law_hand_here", "_law_machine_here", "_law_pattern_here"] []
  f_law : ∃ f fd, Fun K "law" "law" s_law f fd ∧ mg "law" = some (.ref f) ∧ Binds K fd ["_law_script"] []
local macro_rules | `(tactic| walk_at "sd") => `(tactic| first | assumption | decide +kernel | omega | exact mulOk_ite _ _ | (refine Or.inl ⟨?_, ?_⟩ <;> omega) | (refine Or.inr (Or.inl ⟨?_, ?_⟩) <;> omega) | (refine And.intro ?_ (Or.inl ?_) <;> omega))
local macro_rules | `(tactic| walk_at "cj") => `(tactic| repeat (refine And.intro ?_ ?_; walk_at "sd"))
local macro_rules | `(tactic| walk_at "rd") => `(tactic| try simp only [tSeq3, tNext3, tDrop3, tRet3, tRetN3, tIfS3, tSet3, tAsgT3, tPr3, tWhile3, tFor3, tLc3, tRng1, tRng2, tSeqI3, tYes3, wipe3, wipe3.clr, tPut3, tApp3, tPop3, tVar3, tC3, tOp3, tUn3, tNil3, tCons3, tCB3, tTest3, tChain3, tAnd3, tOr3, tNot3, tAndV3, tOrV3, tNotV3, tIf3, tTup3, tPure, tOwn, tLst3, pures, at3, set3, bind3_nm, bind3_tup, binds3_nil, binds3_cons, rAdd3, rSub3, rMulT3, rMul3, rMod3, rDiv3, rPow3, rLt3, rLe3, rGt3, rGe3, rEqS3, rNeS3, rIs3, rIsNot3, rInt, rInt0, L3.isNon, rNeg3, rIntOf3, rInt2, rReprD3, rLen3, rIx3, seq3, lst3, own3, atI_lit, ixN_lit, atI_neg1, List.getElem?_cons_zero, List.getElem?_cons_succ, List.set_cons_zero, List.set_cons_succ, List.getLast?, List.dropLast, List.set_set, tIsi3, tSl3, tSlN3, tPart3, tNoPart3, tZipI3, tZipK3, tSwap3, rAnyT3, tEnumerateI3, tEnumA3, tEnumR3, tReversedI3, tTupRev3, tLstOf3, rBls3, rInts3, rSumA3, rAbs3, rTupOf3, rMulS3, rIntT3, tExt3, rIn3, rInA3, tSortedI3, tSortedD3, rLtD3, tRev3, tDNew3, tDGet3, tDPut3, tDIn3, rMaxT3, tSetLL3, rIxL3, lls3, tIns3, tIdxL3, tLenSetG3, tLkT3, tTGetA3, dia3, tTNew3, tTGet3, tTPut3, tTIn3, dic3, rLenA3, dik3, key3, tRgA3, tRgB3, tLstRgA, tLstRgB, tTupRgA, tTupRgB, tAug3, tAugI3, tDLit3, tPairs3, keysD, keyD, tKeysD3, rEqL3, rNeL3, L3.data3, tSortSet3, tRepN3, tPopAt3, L3.under, isTy, decide_eq_true_eq, Bool.not_eq_true', env0, List.map, List.length_cons, List.length_nil, List.replicate, List.cons_append, List.nil_append, Nat.sub_self, Nat.reduceAdd, Nat.reduceSub, eqv_int, shaped_int, shaped_none, eqv_ni, eqv_in, eqv_str_self, shaped_ofStr, and_self, true_and, beq_iff_eq, bne_iff_ne, if_true, if_false, Bool.false_eq_true, List.length_set, Nat.reduceLT, Int.reduceLT, Int.reduceLE, Int.reduceToNat, Int.reducePow, Int.reduceMul, Int.reduceMod, Int.reduceAdd, Int.reduceSub, Int.reduceNeg, sizeLine_eq, Nat.reduceLeDiff, String.reduceBEq, String.reduceEq, beq_self_eq_true, beq_eq_false_iff_ne, ne_eq, decide_eq_false_iff_not, not_true_eq_false, not_false_eq_true, Bool.true_eq_false, Bool.or_true, Bool.or_false, reduceIte, ite_true, ite_false, decide_true, decide_false, Bool.not_true, Bool.not_false, Bool.and_true, Bool.true_and, List.length_map])
local macro_rules | `(tactic| walk_at "bd") => `(tactic| first | kernel_rfl | rfl | with_unfolding_all rfl)
local macro_rules | `(tactic| walk_at "rdx") => `(tactic| simp only [tSeq3, tNext3, tDrop3, tRet3, tRetN3, tIfS3, tSet3, tAsgT3, tPr3, tWhile3, tFor3, tLc3, tRng1, tRng2, tSeqI3, tYes3, wipe3, wipe3.clr, tPut3, tApp3, tPop3, tVar3, tC3, tOp3, tUn3, tNil3, tCons3, tCB3, tTest3, tChain3, tAnd3, tOr3, tNot3, tAndV3, tOrV3, tNotV3, tIf3, tTup3, tPure, tOwn, tLst3, pures, at3, set3, bind3_nm, bind3_tup, binds3_nil, binds3_cons, rAdd3, rSub3, rMulT3, rMul3, rMod3, rDiv3, rPow3, rLt3, rLe3, rGt3, rGe3, rEqS3, rNeS3, rIs3, rIsNot3, rInt, rInt0, L3.isNon, rNeg3, rIntOf3, rInt2, rReprD3, rLen3, rIx3, seq3, lst3, own3, atI_lit, ixN_lit, atI_neg1, List.getElem?_cons_zero, List.getElem?_cons_succ, List.set_cons_zero, List.set_cons_succ, List.getLast?, List.dropLast, List.set_set, tIsi3, tSl3, tSlN3, tPart3, tNoPart3, tZipI3, tZipK3, tSwap3, rAnyT3, tEnumerateI3, tEnumA3, tEnumR3, tReversedI3, tTupRev3, tLstOf3, rBls3, rInts3, rSumA3, rAbs3, rTupOf3, rMulS3, rIntT3, tExt3, rIn3, rInA3, tSortedI3, tSortedD3, rLtD3, tRev3, tDNew3, tDGet3, tDPut3, tDIn3, rMaxT3, tSetLL3, rIxL3, lls3, tIns3, tIdxL3, tLenSetG3, tLkT3, tTGetA3, dia3, tTNew3, tTGet3, tTPut3, tTIn3, dic3, rLenA3, dik3, key3, tRgA3, tRgB3, tLstRgA, tLstRgB, tTupRgA, tTupRgB, tAug3, tAugI3, tDLit3, tPairs3, keysD, keyD, rEqL3, rNeL3, L3.data3, tSortSet3, tRepN3, tPopAt3, L3.under, isTy, decide_eq_true_eq, Bool.not_eq_true', env0, List.map, List.length_cons, List.length_nil, List.replicate, List.cons_append, List.nil_append, Nat.sub_self, Nat.reduceAdd, Nat.reduceSub, eqv_int, shaped_int, shaped_none, eqv_ni, eqv_in, eqv_str_self, shaped_ofStr, and_self, true_and, beq_iff_eq, bne_iff_ne, if_true, if_false, Bool.false_eq_true, List.length_set, Nat.reduceLT, Int.reduceLT, Int.reduceLE, Int.reduceToNat, Int.reducePow, Int.reduceMul, Int.reduceMod, Int.reduceAdd, Int.reduceSub, Int.reduceNeg, sizeLine_eq, Nat.reduceLeDiff, String.reduceBEq, String.reduceEq, beq_self_eq_true, beq_eq_false_iff_ne, ne_eq, decide_eq_false_iff_not, not_true_eq_false, not_false_eq_true, Bool.true_eq_false, Bool.or_true, Bool.or_false, reduceIte, ite_true, ite_false, decide_true, decide_false, Bool.not_true, Bool.not_false, Bool.and_true, Bool.true_and, List.length_map])
/-! ### machines: the plain part -/
def dotL (taps st : List Int) : Int := ((taps.zip st).map fun p => p.1 * p.2).sum
def stepL (k : Int) (taps st : List Int) : List Int := st.tail ++ [dotL taps st % k]
def itr (k : Int) (taps : List Int) : Nat → List Int → List Int
  | 0, s => s
  | n + 1, s => stepL k taps (itr k taps n s)
structure Mach (k : Int) (taps : List Int) : Prop where
  kd : (k = 2 ∧ taps.length ≤ 9) ∨ (k = 3 ∧ taps.length ≤ 5) ∨ (k = 5 ∧ taps.length ≤ 3) ∨ (k = 7 ∧ taps.length ≤ 3)
  ne : ∃ t r, taps = t :: r ∧ 0 < t
  ok : ∀ t ∈ taps, 0 ≤ t ∧ t < k
structure Sta (k : Int) (taps st : List Int) : Prop where
  len : st.length = taps.length
  ok : ∀ t ∈ st, 0 ≤ t ∧ t < k
theorem Mach.pos {k : Int} {taps : List Int} (M : Mach k taps) : 0 < k ∧ k ≤ 7 ∧ 1 ≤ taps.length ∧ taps.length ≤ 9 := by
  obtain ⟨t, r, e, _⟩ := M.ne
  have : taps.length = r.length + 1 := by rw [e]; rfl
  have := M.kd
  omega
theorem Sta.step {k : Int} {taps st : List Int} (M : Mach k taps) (h : Sta k taps st) : Sta k taps (stepL k taps st) := by
  have hp := M.pos
  unfold stepL
  refine ⟨?_, fun t ht => ?_⟩
  · rw [List.length_append, List.length_tail, List.length_singleton, h.len]
    omega
  · rcases List.mem_append.mp ht with ht | ht
    · exact h.ok t (List.mem_of_mem_tail ht)
    · rw [List.mem_singleton] at ht
      subst ht
      exact ⟨Int.emod_nonneg _ (by omega), Int.emod_lt_of_pos _ hp.1⟩
theorem Sta.itr {k : Int} {taps st : List Int} (M : Mach k taps) (h : Sta k taps st) : ∀ n, Sta k taps (itr k taps n st)
  | 0 => h
  | n + 1 => (Sta.itr M h n).step M
theorem itr_add (k : Int) (taps : List Int) (a : Nat) (s : List Int) : ∀ b, itr k taps (b + a) s = itr k taps b (itr k taps a s)
  | 0 => by rw [Nat.zero_add]; rfl
  | b + 1 => by
    rw [Nat.succ_add]
    show stepL k taps (itr k taps (b + a) s) = stepL k taps (itr k taps b (itr k taps a s))
    rw [itr_add k taps a s b]
theorem prime_no {k t d : Int} (hk : k = 2 ∨ k = 3 ∨ k = 5 ∨ k = 7) (t0 : 0 < t) (t1 : t < k) (h : (t * d) % k = 0) : d % k = 0 := by
  rw [Int.mul_emod] at h
  have d0 : 0 ≤ d % k := Int.emod_nonneg _ (by omega)
  have d1 : d % k < k := Int.emod_lt_of_pos _ (by omega)
  generalize d % k = e at *
  rw [Int.emod_eq_of_lt (Int.le_of_lt t0) t1] at h
  rcases hk with rfl | rfl | rfl | rfl
  · have ht : t = 1 := by omega
    subst ht
    omega
  · have ht : t = 1 ∨ t = 2 := by omega
    rcases ht with rfl | rfl <;> omega
  · have ht : t = 1 ∨ t = 2 ∨ t = 3 ∨ t = 4 := by omega
    rcases ht with rfl | rfl | rfl | rfl <;> omega
  · have ht : t = 1 ∨ t = 2 ∨ t = 3 ∨ t = 4 ∨ t = 5 ∨ t = 6 := by omega
    rcases ht with rfl | rfl | rfl | rfl | rfl | rfl <;> omega
theorem step_inj {k : Int} {taps s s' : List Int} (M : Mach k taps) (h : Sta k taps s) (h' : Sta k taps s') (e : stepL k taps s = stepL k taps s') : s = s' := by
  obtain ⟨t, r, et, ht⟩ := M.ne
  have hp := M.pos
  cases s with
  | nil =>
    have := h.len
    rw [et] at this
    cases this
  | cons x xs =>
    cases s' with
    | nil =>
      have := h'.len
      rw [et] at this
      cases this
    | cons y ys =>
      unfold stepL at e
      simp only [List.tail_cons] at e
      have hl : xs.length = ys.length := by
        have a := h.len
        have b := h'.len
        simp only [List.length_cons] at a b
        omega
      obtain ⟨e1, e2⟩ := List.append_inj e hl
      subst e1
      have e3 : dotL taps (x :: xs) % k = dotL taps (y :: xs) % k := by simpa using e2
      rw [et] at e3
      simp only [dotL, List.zip_cons_cons, List.map_cons, List.sum_cons] at e3
      have e4 : (t * (x - y)) % k = 0 := by
        have := Int.emod_eq_emod_iff_emod_sub_eq_zero.mp e3
        have e5 : t * x + (List.map (fun p : Int × Int => p.1 * p.2) (r.zip xs)).sum - (t * y + (List.map (fun p : Int × Int => p.1 * p.2) (r.zip xs)).sum) = t * (x - y) := by
          rw [Int.mul_sub]
          omega
        rw [e5] at this
        exact this
      have t1 : t < k := (M.ok t (by rw [et]; exact List.mem_cons_self)).2
      have hk : k = 2 ∨ k = 3 ∨ k = 5 ∨ k = 7 := by
        have := M.kd
        omega
      have e6 := prime_no hk ht t1 e4
      have x0 := h.ok x List.mem_cons_self
      have y0 := h'.ok y List.mem_cons_self
      have : x = y := by
        have a : x % k = y % k := Int.emod_eq_emod_iff_emod_sub_eq_zero.mpr e6
        rw [Int.emod_eq_of_lt x0.1 x0.2, Int.emod_eq_of_lt y0.1 y0.2] at a
        exact a
      rw [this]
theorem itr_inj {k : Int} {taps s s' : List Int} (M : Mach k taps) (h : Sta k taps s) (h' : Sta k taps s') : ∀ n, itr k taps n s = itr k taps n s' → s = s'
  | 0, e => e
  | n + 1, e => itr_inj M h h' n (step_inj M (h.itr M n) (h'.itr M n) e)
theorem pigeon : ∀ (n : Nat) (f : Nat → Nat), (∀ i, i ≤ n → f i < n) → ∃ i j, i < j ∧ j ≤ n ∧ f i = f j
  | 0, f, h => absurd (h 0 (Nat.le_refl _)) (Nat.not_lt_zero _)
  | n + 1, f, h => by
    by_cases hv : ∃ i, i ≤ n ∧ f i = f (n + 1)
    · obtain ⟨i, hi, e⟩ := hv
      exact ⟨i, n + 1, by omega, Nat.le_refl _, e⟩
    · have hv' : ∀ i, i ≤ n → f i ≠ f (n + 1) := fun i hi e => hv ⟨i, hi, e⟩
      obtain ⟨i, j, h1, h2, h3⟩ := pigeon n (fun i => if f i = n then f (n + 1) else f i) fun i hi => by
        have a := h i (by omega)
        have b := h (n + 1) (Nat.le_refl _)
        have c := hv' i hi
        show (if f i = n then f (n + 1) else f i) < n
        split <;> omega
      refine ⟨i, j, h1, by omega, ?_⟩
      have c1 := hv' i (by omega)
      have c2 := hv' j h2
      have h3' : (if f i = n then f (n + 1) else f i) = (if f j = n then f (n + 1) else f j) := h3
      split at h3' <;> split at h3' <;> omega
/-- a state as a number -/
def code (k : Nat) : List Int → Nat
  | [] => 0
  | x :: xs => x.toNat + k * code k xs
theorem code_lt {k : Int} (hk : 0 < k) : ∀ {s : List Int}, (∀ t ∈ s, 0 ≤ t ∧ t < k) → code k.toNat s < k.toNat ^ s.length
  | [], _ => by simp [code]
  | x :: xs, h => by
    have ih := code_lt hk (s := xs) fun t ht => h t (List.mem_cons_of_mem _ ht)
    have hx := h x List.mem_cons_self
    unfold code
    rw [List.length_cons, Nat.pow_succ]
    have : k.toNat * (code k.toNat xs + 1) ≤ k.toNat * k.toNat ^ xs.length := Nat.mul_le_mul_left _ ih
    rw [Nat.mul_add, Nat.mul_comm k.toNat (k.toNat ^ xs.length)] at this
    omega
theorem code_inj {k : Int} (hk : 0 < k) : ∀ {s s' : List Int}, s.length = s'.length → (∀ t ∈ s, 0 ≤ t ∧ t < k) → (∀ t ∈ s', 0 ≤ t ∧ t < k) → code k.toNat s = code k.toNat s' → s = s'
  | [], [], _, _, _, _ => rfl
  | x :: xs, y :: ys, hl, h, h', e => by
    have hx := h x List.mem_cons_self
    have hy := h' y List.mem_cons_self
    unfold code at e
    have k0 : 0 < k.toNat := by omega
    have m1 : (x.toNat + k.toNat * code k.toNat xs) % k.toNat = x.toNat := by rw [Nat.add_mul_mod_self_left]; exact Nat.mod_eq_of_lt (by omega)
    have m2 : (y.toNat + k.toNat * code k.toNat ys) % k.toNat = y.toNat := by rw [Nat.add_mul_mod_self_left]; exact Nat.mod_eq_of_lt (by omega)
    have e1 : x.toNat = y.toNat := by rw [← m1, ← m2, e]
    have e2 : k.toNat * code k.toNat xs = k.toNat * code k.toNat ys := by omega
    have e3 := Nat.eq_of_mul_eq_mul_left k0 e2
    have hxy : x = y := by omega
    subst hxy
    rw [code_inj hk (by simpa using hl) (fun t ht => h t (List.mem_cons_of_mem _ ht)) (fun t ht => h' t (List.mem_cons_of_mem _ ht)) e3]
  | [], _ :: _, hl, _, _, _ => by cases hl
  | _ :: _, [], hl, _, _, _ => by cases hl
theorem Mach.few {k : Int} {taps : List Int} (M : Mach k taps) : k.toNat ^ taps.length ≤ 512 := by
  rcases M.kd with ⟨rfl, h⟩ | ⟨rfl, h⟩ | ⟨rfl, h⟩ | ⟨rfl, h⟩
  · exact Nat.le_trans (Nat.pow_le_pow_right (by decide) h) (by decide)
  · exact Nat.le_trans (Nat.pow_le_pow_right (by decide) h) (by decide)
  · exact Nat.le_trans (Nat.pow_le_pow_right (by decide) h) (by decide)
  · exact Nat.le_trans (Nat.pow_le_pow_right (by decide) h) (by decide)
/-- p is the first number of steps that leads back -/
structure Per (k : Int) (taps st : List Int) (p : Nat) : Prop where
  pos : 0 < p
  few : p ≤ 512
  back : itr k taps p st = st
  first : ∀ j, 0 < j → j < p → itr k taps j st ≠ st
theorem least (P : Nat → Prop) (n : Nat) (h : P n) : ∃ m, m ≤ n ∧ P m ∧ ∀ j, j < m → ¬ P j := by
  induction n using Nat.strongRecOn with
  | _ n ih =>
    by_cases hq : ∃ j, j < n ∧ P j
    · obtain ⟨j, hj, hp⟩ := hq
      obtain ⟨m, h1, h2, h3⟩ := ih j hj hp
      exact ⟨m, by omega, h2, h3⟩
    · exact ⟨n, Nat.le_refl _, h, fun j hj hp => hq ⟨j, hj, hp⟩⟩
theorem per_ex {k : Int} {taps st : List Int} (M : Mach k taps) (h : Sta k taps st) : ∃ p, Per k taps st p := by
  have hp := M.pos
  have bound : ∀ i, i ≤ k.toNat ^ taps.length → code k.toNat (itr k taps i st) < k.toNat ^ taps.length := fun i _ => by
    have s := h.itr M i
    have := code_lt hp.1 s.ok
    rw [s.len] at this
    exact this
  obtain ⟨i, j, hij, hj, e⟩ := pigeon _ (fun i => code k.toNat (itr k taps i st)) bound
  have si := h.itr M i
  have sj := h.itr M j
  have e1 : itr k taps i st = itr k taps j st := code_inj hp.1 (si.len.trans sj.len.symm) si.ok sj.ok e
  have e2 : itr k taps (j - i) st = st := by
    refine (itr_inj M h (h.itr M (j - i)) i ?_).symm
    rw [← itr_add, show i + (j - i) = j by omega]
    exact e1
  obtain ⟨p, p1, p2, p3⟩ := least (fun n => 0 < n ∧ itr k taps n st = st) (j - i) ⟨by omega, e2⟩
  have := M.few
  exact ⟨p, p2.1, by omega, p2.2, fun q q0 q1 q2 => p3 q q1 ⟨q0, q2⟩⟩
theorem Per.turn {k : Int} {taps st : List Int} {p : Nat} (M : Mach k taps) (h : Sta k taps st) (P : Per k taps st p) (s : Nat) : Per k taps (itr k taps s st) p := by
  refine ⟨P.pos, P.few, ?_, fun j j0 j1 e => P.first j j0 j1 ?_⟩
  · rw [← itr_add, Nat.add_comm, itr_add, P.back]
  · refine itr_inj M (h.itr M j) h s ?_
    rw [← itr_add, Nat.add_comm, itr_add]
    exact e
theorem Per.mod {k : Int} {taps st : List Int} {p : Nat} (P : Per k taps st p) (n : Nat) : itr k taps (n % p) st = itr k taps n st := by
  induction n using Nat.strongRecOn with
  | _ n ih =>
    by_cases hn : n < p
    · rw [Nat.mod_eq_of_lt hn]
    · have hp := P.pos
      rw [Nat.mod_eq_sub_mod (by omega), ih (n - p) (by omega)]
      have e : itr k taps n st = itr k taps ((n - p) + p) st := by rw [Nat.sub_add_cancel (by omega)]
      rw [e, itr_add, P.back]
def hdI (s : List Int) : Int := s.headD 0
def rowL (k : Int) (taps : List Int) (p : Nat) (st : List Int) : List Int := (List.range p).map fun j => hdI (itr k taps j st)
theorem rowL_len (k : Int) (taps : List Int) (p : Nat) (st : List Int) : (rowL k taps p st).length = p := by
  unfold rowL
  rw [List.length_map, List.length_range]
theorem rowL_get {k : Int} {taps st : List Int} {p j : Nat} (h : j < p) : (rowL k taps p st)[j]? = some (hdI (itr k taps j st)) := by
  unfold rowL
  rw [List.getElem?_map, List.getElem?_range h]
  rfl
theorem rowL_turn {k : Int} {taps st : List Int} {p s : Nat} (P : Per k taps st p) (hs : s < p) : rowL k taps p (itr k taps s st) = (rowL k taps p st).drop s ++ (rowL k taps p st).take s := by
  refine List.ext_getElem? fun j => ?_
  by_cases hj : j < p
  · rw [rowL_get hj, ← itr_add]
    by_cases h1 : j < p - s
    · rw [List.getElem?_append_left (by rw [List.length_drop, rowL_len]; exact h1), List.getElem?_drop, rowL_get (by omega), Nat.add_comm]
    · rw [List.getElem?_append_right (by rw [List.length_drop, rowL_len]; omega), List.length_drop, rowL_len, List.getElem?_take_of_lt (by omega), rowL_get (by omega)]
      have e : j + s = (j - (p - s)) + p := by omega
      rw [e, itr_add, P.back]
  · rw [List.getElem?_eq_none_iff.mpr (by rw [rowL_len]; omega), List.getElem?_eq_none_iff.mpr]
    rw [List.length_append, List.length_drop, List.length_take, rowL_len]
    omega
theorem itr_get {k : Int} {taps st : List Int} (M : Mach k taps) (h : Sta k taps st) : ∀ (n j : Nat), n + j < st.length → (itr k taps n st)[j]? = st[n + j]?
  | 0, j, _ => by rw [Nat.zero_add]; rfl
  | n + 1, j, hj => by
    have s := h.itr M n
    show (stepL k taps (itr k taps n st))[j]? = _
    unfold stepL
    have hl : (itr k taps n st).tail.length = st.length - 1 := by rw [List.length_tail, s.len, h.len]
    rw [List.getElem?_append_left (by omega), List.getElem?_tail, itr_get M h n (j + 1) (by omega)]
    congr 1
    omega
theorem hdI_of {s : List Int} {x : Int} (h : s[0]? = some x) : hdI s = x := by
  cases s with
  | nil => cases h
  | cons y ys =>
    simp at h
    exact h
theorem hdI_get {s : List Int} (h : s ≠ []) : s[0]? = some (hdI s) := by
  cases s with
  | nil => exact absurd rfl h
  | cons y ys => rfl
theorem Sta.ne {k : Int} {taps st : List Int} (M : Mach k taps) (h : Sta k taps st) : st ≠ [] := fun z => by
  have := M.pos
  have := h.len
  rw [z] at this
  simp at this
  omega
theorem hdI_mem {s : List Int} (h : s ≠ []) : hdI s ∈ s := by
  cases s with
  | nil => exact absurd rfl h
  | cons y ys => exact List.mem_cons_self
theorem rowL_ok {k : Int} {taps st : List Int} (M : Mach k taps) (h : Sta k taps st) {p : Nat} : ∀ x ∈ rowL k taps p st, 0 ≤ x ∧ x < k := fun x hx => by
  unfold rowL at hx
  obtain ⟨j, _, rfl⟩ := List.mem_map.mp hx
  have s := h.itr M j
  exact s.ok _ (hdI_mem (s.ne M))
/-- a machine, told -/
def mach (k : Int) (taps : List Int) : PyData := .tuple [.int k, tupI taps]
theorem take_one {α : Type} {xs : List α} {i : Nat} {x : α} (h : xs[i]? = some x) : xs.take (i + 1) = xs.take i ++ [x] := by
  rw [List.take_add_one, h]
  rfl
theorem cut3_tail {α : Type} (xs : List α) : cut3 xs (some 1) none = xs.tail := by
  unfold cut3 HT.sIx
  cases xs with
  | nil => rfl
  | cons x xs =>
    have e : min (1 : Int).toNat (x :: xs).length = 1 := by simp
    simp only [show ¬ ((1 : Int) < 0) by decide, if_false, e]
    simp
theorem cut3_drop {α : Type} (xs : List α) (s : Nat) : cut3 xs (some (s : Int)) none = xs.drop s := by
  unfold cut3
  rw [HT.sIx_nat, HT.sIx_none]
  by_cases h : s ≤ xs.length
  · rw [Nat.min_eq_left h]
    exact List.take_of_length_le (by rw [List.length_drop]; exact Nat.le_refl _)
  · rw [Nat.min_eq_right (by omega), List.drop_of_length_le (by omega : xs.length ≤ s), List.drop_of_length_le (Nat.le_refl _)]
    simp
theorem cut3_take {α : Type} (xs : List α) (s : Nat) : cut3 xs none (some (s : Int)) = xs.take s := by
  unfold cut3
  rw [HT.sIx_nat, HT.sIx_none, List.drop_zero, Nat.sub_zero]
  by_cases h : s ≤ xs.length
  · rw [Nat.min_eq_left h]
  · rw [Nat.min_eq_right (by omega), List.take_of_length_le (by omega : xs.length ≤ s), List.take_length]
theorem tail_ints (xs : List Int) : (xs.map PyData.int).tail = xs.tail.map PyData.int := by cases xs <;> rfl
/-- a hand whose count is not above b -/
def HdB (S : S3) (n : Nat) (b : Int) : Prop := ∃ g x c : Int, S[n]? = some (some (.lst [.int g, .int x, .int c])) ∧ 0 ≤ c ∧ c ≤ b
theorem HdB.hd {S : S3} {n : Nat} {b : Int} (h : HdB S n b) : Hd S n := let ⟨g, x, c, e, _⟩ := h; ⟨g, x, c, e⟩
theorem HdB.le {S : S3} {n : Nat} {b b' : Int} (h : HdB S n b) (hb : b ≤ b') : HdB S n b' := let ⟨g, x, c, e, h0, h1⟩ := h; ⟨g, x, c, e, h0, by omega⟩
theorem HdTo.refl {S : S3} {n : Nat} (h : Hd S n) : HdTo n S S := by
  obtain ⟨g, x, c, e⟩ := h
  obtain ⟨hl, e'⟩ := List.getElem?_eq_some_iff.mp e
  exact ⟨g, x, c, by rw [← e', List.set_getElem_self]⟩

theorem rep3_single {α : Type} (x : α) (k : Int) : rep3 [x] k = List.replicate k.toNat x := by
  unfold rep3
  induction k.toNat with
  | zero => rfl
  | succ n ih => rw [List.replicate_succ, List.flatten_cons, ih, List.replicate_succ]; rfl
theorem atI_lt {α : Type} {xs : List α} {d : Int} (h0 : 0 ≤ d) (h1 : d < (xs.length : Int)) : ∃ (j : Nat) (x : α), d = (j : Int) ∧ j < xs.length ∧ xs[j]? = some x ∧ atI xs d = some x := by
  obtain ⟨j, rfl⟩ := Int.eq_ofNat_of_zero_le h0
  have hj : j < xs.length := by omega
  exact ⟨j, xs[j], rfl, hj, List.getElem?_eq_getElem hj, atI_nat (List.getElem?_eq_getElem hj)⟩
theorem sta_shows {k : Int} {taps st : List Int} (M : Mach k taps) (h : Sta k taps st) : Shows (tupI st) 138 1 := shows_tupI (n := 9) (fun x hx => by
  have := h.ok x hx
  have := M.pos
  omega) (by rw [h.len]; exact M.pos.2.2.2)
theorem row_shows {k : Int} {taps st : List Int} {p : Nat} (M : Mach k taps) (h : Sta k taps st) (P : Per k taps st p) : Shows (tupI (rowL k taps p st)) 7683 1 := shows_tupI (n := 512) (fun x hx => by
  have := rowL_ok M h x hx
  have := M.pos
  omega) (by rw [rowL_len]; exact P.few)
theorem mach_shows {k : Int} {taps : List Int} (M : Mach k taps) : Shows (mach k taps) 300 2 := by
  have hmp := M.pos
  have h : Shows (.tuple [.int k, tupI taps]) (2 * (138 + 2) + 3) (1 + 1) := Shows.tup (B := 138) (k := 1) (fun x hx => by
    simp only [List.mem_cons, List.not_mem_nil, or_false] at hx
    rcases hx with rfl | rfl
    · exact (Shows.int (by omega)).le (by decide) (by decide)
    · exact shows_tupI (n := 9) (fun x hx => by
        have := M.ok x hx
        omega) hmp.2.2.2) (Nat.le_refl 2)
  exact h.le (by decide) (by decide)
theorem both_shows {k : Int} {taps st : List Int} (M : Mach k taps) (h : Sta k taps st) : Shows (.list [mach k taps, tupI st]) (2 * (300 + 2) + 3) (2 + 1) :=
  Shows.lst (fun x hx => by
    simp only [List.mem_cons, List.not_mem_nil, or_false] at hx
    rcases hx with rfl | rfl
    · exact mach_shows M
    · exact (sta_shows M h).le (by decide) (by decide)) (Nat.le_refl 2)

def sumL (k : Int) (a b : List Int) : List Int := (a.zip b).map fun p => (p.1 + p.2) % k
theorem sumL_len (k : Int) {a b : List Int} (h : a.length = b.length) : (sumL k a b).length = a.length := by
  unfold sumL
  rw [List.length_map, List.length_zip]
  omega
theorem sumL_sta {k : Int} {taps a b : List Int} (M : Mach k taps) (h : Sta k taps a) (h' : Sta k taps b) : Sta k taps (sumL k a b) := by
  have hp := M.pos
  refine ⟨(sumL_len k (h.len.trans h'.len.symm)).trans h.len, fun t ht => ?_⟩
  unfold sumL at ht
  obtain ⟨p, _, rfl⟩ := List.mem_map.mp ht
  exact ⟨Int.emod_nonneg _ (by omega), Int.emod_lt_of_pos _ hp.1⟩
theorem dot_sum {k : Int} : ∀ (t a b : List Int), a.length = b.length → dotL t (sumL k a b) % k = (dotL t a + dotL t b) % k
  | [], a, b, _ => by simp [dotL]
  | x :: t, [], [], _ => by simp [dotL, sumL]
  | x :: t, y :: a, z :: b, h => by
    have ih := dot_sum (k := k) t a b (by simpa using h)
    simp only [dotL, sumL, List.zip_cons_cons, List.map_cons, List.sum_cons] at ih ⊢
    generalize (List.map (fun p : Int × Int => p.1 * p.2) (t.zip (List.map (fun p : Int × Int => (p.1 + p.2) % k) (a.zip b)))).sum = u at *
    generalize (List.map (fun p : Int × Int => p.1 * p.2) (t.zip a)).sum = v at *
    generalize (List.map (fun p : Int × Int => p.1 * p.2) (t.zip b)).sum = w at *
    have e1 : (x * ((y + z) % k) + u) % k = (x * (y + z) + u) % k := by
      rw [Int.add_emod, Int.mul_emod, Int.emod_emod, ← Int.mul_emod, ← Int.add_emod]
    have e2 : x * (y + z) + u = x * y + x * z + u := by rw [Int.mul_add]
    have e3 : x * y + v + (x * z + w) = x * y + x * z + (v + w) := by omega
    rw [e1, e2, e3, Int.add_emod, ih, ← Int.add_emod]
  | _ :: _, [], _ :: _, h => by cases h
  | _ :: _, _ :: _, [], h => by cases h
theorem sumL_step {k : Int} {taps a b : List Int} (M : Mach k taps) (h : Sta k taps a) (h' : Sta k taps b) : stepL k taps (sumL k a b) = sumL k (stepL k taps a) (stepL k taps b) := by
  have hl : a.length = b.length := h.len.trans h'.len.symm
  unfold stepL
  have e : dotL taps (sumL k a b) % k = (dotL taps a % k + dotL taps b % k) % k := by rw [dot_sum taps a b hl, Int.add_emod]
  rw [e]
  unfold sumL
  have hz : (a.tail ++ [dotL taps a % k]).zip (b.tail ++ [dotL taps b % k]) = a.tail.zip b.tail ++ [(dotL taps a % k, dotL taps b % k)] := by
    rw [List.zip_append (by rw [List.length_tail, List.length_tail, hl])]
    rfl
  rw [hz, List.map_append]
  congr 1
  cases a with
  | nil => simp
  | cons x a => cases b with
    | nil => simp
    | cons y b => simp
theorem sumL_itr {k : Int} {taps a b : List Int} (M : Mach k taps) (h : Sta k taps a) (h' : Sta k taps b) : ∀ n, itr k taps n (sumL k a b) = sumL k (itr k taps n a) (itr k taps n b)
  | 0 => rfl
  | n + 1 => by
    show stepL k taps (itr k taps n (sumL k a b)) = _
    rw [sumL_itr M h h' n, sumL_step M (h.itr M n) (h'.itr M n)]
    rfl
theorem hdI_sum {k : Int} {a b : List Int} (ha : a ≠ []) (hb : b ≠ []) : hdI (sumL k a b) = (hdI a + hdI b) % k := by
  cases a with
  | nil => exact absurd rfl ha
  | cons x a => cases b with
    | nil => exact absurd rfl hb
    | cons y b => rfl
/-- a pattern as a machine shows it from st -/
def seen (k : Int) (taps : List Int) (pat : List Nat) (st : List Int) : List Int := pat.map fun n => hdI (itr k taps n st)
theorem seen_len (k : Int) (taps : List Int) (pat : List Nat) (st : List Int) : (seen k taps pat st).length = pat.length := by
  unfold seen
  rw [List.length_map]
theorem seen_sum {k : Int} {taps a b : List Int} (M : Mach k taps) (h : Sta k taps a) (h' : Sta k taps b) : ∀ pat : List Nat, seen k taps pat (sumL k a b) = sumL k (seen k taps pat a) (seen k taps pat b)
  | [] => rfl
  | n :: pat => by
    have ih := seen_sum M h h' pat
    unfold seen sumL at ih ⊢
    simp only [List.map_cons, List.zip_cons_cons]
    rw [← ih]
    congr 1
    have := sumL_itr M h h' n
    unfold sumL at this
    rw [this]
    exact hdI_sum ((h.itr M n).ne M) ((h'.itr M n).ne M)
theorem seen_ok {k : Int} {taps st : List Int} (M : Mach k taps) (h : Sta k taps st) {pat : List Nat} : ∀ x ∈ seen k taps pat st, 0 ≤ x ∧ x < k := fun x hx => by
  unfold seen at hx
  obtain ⟨n, _, rfl⟩ := List.mem_map.mp hx
  have s := h.itr M n
  exact s.ok _ (hdI_mem (s.ne M))
theorem sumL_ok {k : Int} (hk : 0 < k) (a b : List Int) : ∀ x ∈ sumL k a b, 0 ≤ x ∧ x < k := fun x hx => by
  unfold sumL at hx
  obtain ⟨p, _, rfl⟩ := List.mem_map.mp hx
  exact ⟨Int.emod_nonneg _ (by omega), Int.emod_lt_of_pos _ hk⟩
def patI (pat : List Nat) : List Int := pat.map fun (n : Nat) => (n : Int)
theorem seen_shows {k : Int} {taps st : List Int} {pat : List Nat} (M : Mach k taps) (h : Sta k taps st) (hl : pat.length ≤ 16) : Shows (tupI (seen k taps pat st)) 300 1 := (shows_tupI (n := 16) (fun x hx => by
  have := seen_ok M h x hx
  have := M.pos
  omega) (by rw [seen_len]; exact hl)).le (by decide) (by decide)
theorem pat_shows {pat : List Nat} (h : ∀ n ∈ pat, n ≤ 1000000) (hl : pat.length ≤ 16) : Shows (tupI (patI pat)) 300 1 := (shows_tupI (n := 16) (fun x hx => by
  unfold patI at hx
  obtain ⟨n, hn, rfl⟩ := List.mem_map.mp hx
  have := h n hn
  omega) (by unfold patI; rw [List.length_map]; exact hl)).le (by decide) (by decide)
theorem three_shows {k : Int} {taps st : List Int} {pat : List Nat} (M : Mach k taps) (h : Sta k taps st) (hn : ∀ n ∈ pat, n ≤ 1000000) (hl : pat.length ≤ 16) : Shows (.list [mach k taps, tupI (patI pat), tupI st]) (3 * (300 + 2) + 3) (2 + 1) :=
  Shows.lst (fun x hx => by
    simp only [List.mem_cons, List.not_mem_nil, or_false] at hx
    rcases hx with rfl | rfl | rfl
    · exact mach_shows M
    · exact (pat_shows hn hl).le (by decide) (by decide)
    · exact (sta_shows M h).le (by decide) (by decide)) (Nat.le_refl 3)

theorem zip3_at {xs ys : List PyData} {i : Nat} {d : PyData} (h : (zip3 xs ys)[i]? = some d) : ∃ a b, xs[i]? = some a ∧ ys[i]? = some b ∧ d = .tuple [a, b] := by
  unfold zip3 at h
  rw [List.getElem?_map] at h
  obtain ⟨p, hp, rfl⟩ := Option.map_eq_some_iff.mp h
  obtain ⟨h1, h2⟩ := List.getElem?_zip_eq_some.mp hp
  exact ⟨p.1, p.2, h1, h2, rfl⟩
theorem enum3_at {xs : List PyData} {i : Nat} {d : PyData} (h : (enum3 xs)[i]? = some d) : ∃ x, xs[i]? = some x ∧ d = .tuple [.int (i : Nat), x] := by
  unfold enum3 at h
  rw [List.getElem?_map] at h
  obtain ⟨p, hp, rfl⟩ := Option.map_eq_some_iff.mp h
  rw [List.getElem?_zipIdx] at hp
  obtain ⟨x, hx, rfl⟩ := Option.map_eq_some_iff.mp hp
  exact ⟨x, hx, by simp⟩
theorem enum3_ln (xs : List PyData) : (enum3 xs).length = xs.length := by
  unfold enum3
  rw [List.length_map, List.length_zipIdx]

/-- lookups behind stores -/
theorem valE_any {κ β : Type} [DecidableEq κ] (k : κ) : ∀ kvs : List (κ × β), (kvs.any fun kv => decide (kv.1 = k)) = (valE kvs k).isSome
  | [] => rfl
  | p :: r => by
    rw [List.any_cons, valE_any k r]
    by_cases e : p.1 = k
    · simp [valE, List.find?_cons, e]
    · simp [valE, List.find?_cons, e]
theorem valE_new {κ β : Type} [DecidableEq κ] {kvs : List (κ × β)} {k : κ} (y : β) (h : valE kvs k = none) : putE kvs k y = kvs ++ [(k, y)] := by
  unfold putE
  rw [valE_any, h, if_neg (by simp)]
theorem valE_snoc {κ β : Type} [DecidableEq κ] (k j : κ) (y : β) : ∀ kvs : List (κ × β), valE kvs k = none → valE (kvs ++ [(k, y)]) j = if j = k then some y else valE kvs j
  | [], _ => by
    by_cases e : j = k
    · simp [valE, List.find?_cons, e]
    · simp [valE, List.find?_cons, e, Ne.symm e]
  | p :: r, h => by
    have hp : ¬ p.1 = k := fun e => by simp [valE, List.find?_cons, e] at h
    have hr : valE r k = none := by
      have : valE (p :: r) k = valE r k := by simp [valE, List.find?_cons, hp]
      rw [← this]; exact h
    have ih := valE_snoc k j y r hr
    rw [List.cons_append]
    by_cases e : p.1 = j
    · have hjk : ¬ j = k := fun z => hp (e.trans z)
      rw [if_neg hjk]
      simp [valE, List.find?_cons, e]
    · have a : valE (p :: (r ++ [(k, y)])) j = valE (r ++ [(k, y)]) j := by simp [valE, List.find?_cons, e]
      have b : valE (p :: r) j = valE r j := by simp [valE, List.find?_cons, e]
      rw [a, b, ih]
/-- windows as keys -/
def kK (v : List Int) : List Key := v.map Sum.inl
theorem kK_inj : ∀ {a b : List Int}, kK a = kK b → a = b
  | [], [], _ => rfl
  | [], _ :: _, h => by cases h
  | _ :: _, [], h => by cases h
  | x :: xs, y :: ys, h => by
    unfold kK at h
    rw [List.map_cons, List.map_cons, List.cons.injEq] at h
    rw [Sum.inl.inj h.1, kK_inj h.2]
theorem keysT_ints : ∀ v : List Int, keysT (v.map PyData.int) = some (kK v)
  | [] => rfl
  | x :: v => by
    rw [List.map_cons]
    unfold keysT
    rw [keysT_ints v]
    rfl
theorem keyT_tup {v : List Int} (h : v ≠ []) : keyT (.p (.tuple (v.map PyData.int))) = some (kK v) := by
  cases v with
  | nil => exact absurd rfl h
  | cons x v => exact keysT_ints (x :: v)

def metD (ws : List (List Int)) : List (List Key × PyData) := ws.map fun w => (kK w, .bool true)
theorem metD_in (v : List Int) : ∀ ws : List (List Int), (valE (metD ws) (kK v)).isSome = decide (v ∈ ws)
  | [] => by simp [metD, valE]
  | w :: ws => by
    unfold metD
    by_cases e : w = v
    · subst e
      simp [valE, List.find?_cons]
    · have e' : ¬ kK w = kK v := fun z => e (kK_inj z)
      have ih := metD_in v ws
      unfold metD at ih
      rw [List.map_cons]
      have : valE ((kK w, PyData.bool true) :: ws.map fun w => (kK w, PyData.bool true)) (kK v) = valE (ws.map fun w => (kK w, PyData.bool true)) (kK v) := by simp [valE, List.find?_cons, e']
      rw [this, ih, decide_eq_decide, List.mem_cons]
      constructor
      · exact .inr
      · exact fun z => z.resolve_left fun y => e y.symm
theorem metD_put {v : List Int} {ws : List (List Int)} (h : v ∉ ws) : putE (metD ws) (kK v) (.bool true) = metD (ws ++ [v]) := by
  have hn : valE (metD ws) (kK v) = none := by
    have := metD_in v ws
    rw [decide_eq_false h] at this
    cases q : valE (metD ws) (kK v) with
    | none => rfl
    | some x => rw [q] at this; cases this
  rw [valE_new _ hn]
  unfold metD
  rw [List.map_append]
  rfl
theorem map_nd {α β : Type} {f : α → β} : ∀ {l : List α}, l.Nodup → (∀ x ∈ l, ∀ y ∈ l, f x = f y → x = y) → (l.map f).Nodup
  | [], _, _ => List.nodup_nil
  | x :: l, h, hf => by
    obtain ⟨h1, h2⟩ := List.nodup_cons.mp h
    rw [List.map_cons, List.nodup_cons]
    refine ⟨fun z => ?_, map_nd h2 fun a ha b hb => hf a (List.mem_cons_of_mem _ ha) b (List.mem_cons_of_mem _ hb)⟩
    obtain ⟨y, hy, e⟩ := List.mem_map.mp z
    have := hf y (List.mem_cons_of_mem _ hy) x List.mem_cons_self e
    subst this
    exact h1 hy
theorem nd_le {α : Type} [DecidableEq α] : ∀ {l D : List α}, l.Nodup → (∀ x ∈ l, x ∈ D) → l.length ≤ D.length
  | [], _, _, _ => Nat.zero_le _
  | x :: l, D, h, hs => by
    obtain ⟨h1, h2⟩ := List.nodup_cons.mp h
    have hx := hs x List.mem_cons_self
    have := nd_le (l := l) (D := D.erase x) h2 fun y hy => (List.mem_erase_of_ne (fun e => h1 (by rw [← e]; exact hy))).mpr (hs y (List.mem_cons_of_mem _ hy))
    rw [List.length_erase_of_mem hx] at this
    have hD : 0 < D.length := List.length_pos_of_mem hx
    rw [List.length_cons]
    omega
theorem nd_range {N : Nat} {l : List Int} (h : l.Nodup) (hb : ∀ x ∈ l, 0 ≤ x ∧ x < (N : Int)) : l.length ≤ N := by
  have h1 := nd_le (l := l) (D := (List.range N).map Int.ofNat) h fun x hx => by
    obtain ⟨a, b⟩ := hb x hx
    exact List.mem_map.mpr ⟨x.toNat, List.mem_range.mpr (by omega), Int.toNat_of_nonneg a⟩
  rw [List.length_map, List.length_range] at h1
  exact h1
theorem nd_snoc {α : Type} {l : List α} {x : α} (h : l.Nodup) (hx : x ∉ l) : (l ++ [x]).Nodup := by
  rw [List.nodup_append]
  refine ⟨h, by simp, fun a ha b hb e => ?_⟩
  rw [List.mem_singleton.mp hb] at e
  exact hx (e ▸ ha)

def wordsL (k : Nat) : Nat → List (List Int)
  | 0 => [[]]
  | l + 1 => (wordsL k l).flatMap fun w => (List.range k).map fun (d : Nat) => w ++ [((d : Nat) : Int)]
def extW (k : Nat) (w : List Int) : List (List Int) := (List.range k).map fun (d : Nat) => w ++ [((d : Nat) : Int)]
def HasL (n : Nat) (s : S3) (d : D) (ws : List (List Int)) : Prop := d = .p (.list (ws.map tupI)) ∨ ∃ m, d = .loc m ∧ n ≤ m ∧ s[m]? = some (some (.lst (ws.map tupI)))
theorem wordsL_len (k : Nat) : ∀ l : Nat, (wordsL k l).length = k ^ l
  | 0 => rfl
  | l + 1 => by
    unfold wordsL
    rw [List.length_flatMap, Nat.pow_succ, ← wordsL_len k l]
    generalize wordsL k l = L
    induction L with
    | nil => simp
    | cons w L ih =>
      rw [List.map_cons, List.sum_cons, ih, List.length_map, List.length_range, List.length_cons, Nat.add_mul, Nat.one_mul, Nat.add_comm]
theorem wordsL_succ (k l : Nat) : wordsL k (l + 1) = (wordsL k l).flatMap (extW k) := rfl
theorem wordsL_long (k : Nat) : ∀ (l : Nat) (w : List Int), w ∈ wordsL k l → w.length = l
  | 0, w, h => by
    unfold wordsL at h
    rw [List.mem_singleton.mp h]
    rfl
  | l + 1, w, h => by
    rw [wordsL_succ, List.mem_flatMap] at h
    obtain ⟨v, hv, hw⟩ := h
    unfold extW at hw
    obtain ⟨d, _, rfl⟩ := List.mem_map.mp hw
    rw [List.length_append, wordsL_long k l v hv]
    rfl
theorem flatMap_len_le {α β : Type} (f : α → List β) (c : Nat) (h : ∀ a, (f a).length = c) : ∀ l : List α, (l.flatMap f).length = l.length * c
  | [] => by simp
  | a :: l => by
    rw [List.flatMap_cons, List.length_append, h a, flatMap_len_le f c h l, List.length_cons, Nat.add_mul, Nat.one_mul, Nat.add_comm]
theorem flatMap_take {α β : Type} (f : α → List β) {l : List α} {i : Nat} {a : α} (h : l[i]? = some a) : (l.take (i + 1)).flatMap f = (l.take i).flatMap f ++ f a := by
  rw [take_one h, List.flatMap_append]
  simp
theorem take_set_ge' {α : Type} (s : List α) (n : Nat) (o : α) : (s.set n o).take n = s.take n := by
  rw [List.take_set]
  exact List.set_eq_of_length_le (by rw [List.length_take]; omega)

theorem canLayAll0_ints : ∀ ws : List Int, PyData.canLayAll0 (ws.map PyData.int) = true
  | [] => by rw [List.map_nil]; unfold PyData.canLayAll0; rfl
  | w :: ws => by
    rw [List.map_cons]
    unfold PyData.canLayAll0
    rw [canLayAll0_ints ws]
    rfl
theorem eqv_tints (a b : List Int) : PyData.eqv (.tuple (a.map PyData.int)) (.tuple (b.map PyData.int)) = decide (a = b) := by
  simp only [PyData.eqv]
  exact eqvAll_ints a b
theorem shaped_tints (ws : List Int) : SeqAt.shaped (.tuple (ws.map PyData.int)) = true := by
  unfold SeqAt.shaped PyData.canLay0 PyData.depth
  rw [canLayAll0_ints, depthAll_ints0]
  rfl
theorem shaped_lints (ws : List Int) : SeqAt.shaped (.list (ws.map PyData.int)) = true := by
  unfold SeqAt.shaped PyData.canLay0 PyData.depth
  rw [canLayAll0_ints, depthAll_ints0]
  rfl
theorem eqv_lints (a b : List Int) : PyData.eqv (.list (a.map PyData.int)) (.list (b.map PyData.int)) = decide (a = b) := by
  simp only [PyData.eqv]
  exact eqvAll_ints a b
theorem rep_snoc {α β : Type} (f : α → β) (a : α) (n : Nat) : (List.replicate n a).map f ++ [f a] = f a :: (List.replicate n a).map f := by
  have e : List.replicate n a ++ [a] = a :: List.replicate n a := by rw [← List.replicate_succ', List.replicate_succ]
  rw [show [f a] = [a].map f from rfl, ← List.map_append, e]
  rfl
theorem all_true (n : Nat) : (List.replicate n true).all id = true := by
  induction n with
  | zero => rfl
  | succ n ih => rw [List.replicate_succ, List.all_cons, ih]; rfl
/-! ### orders -/
theorem Per.uniq {k : Int} {taps st : List Int} {p p' : Nat} (P : Per k taps st p) (P' : Per k taps st p') : p = p' := by
  rcases Nat.lt_trichotomy p p' with h | h | h
  · exact absurd P.back (P'.first p P.pos h)
  · exact h
  · exact absurd P'.back (P.first p' P'.pos h)
theorem Per.dvd {k : Int} {taps st : List Int} {p : Nat} (P : Per k taps st p) {n : Nat} : itr k taps n st = st ↔ p ∣ n := by
  have hm := Nat.mod_lt n P.pos
  constructor
  · intro h
    rw [← P.mod n] at h
    rcases Nat.eq_zero_or_pos (n % p) with z | z
    · exact Nat.dvd_of_mod_eq_zero z
    · exact absurd h (P.first _ z hm)
  · intro h
    rw [← P.mod n, Nat.mod_eq_zero_of_dvd h]
    rfl
open Classical in
noncomputable def perN (k : Int) (taps st : List Int) : Nat := if h : ∃ p, Per k taps st p then h.choose else 0
theorem perN_per {k : Int} {taps st : List Int} (M : Mach k taps) (h : Sta k taps st) : Per k taps st (perN k taps st) := by
  unfold perN
  rw [dif_pos (per_ex M h)]
  exact (per_ex M h).choose_spec
theorem perN_turn {k : Int} {taps st : List Int} (M : Mach k taps) (h : Sta k taps st) (j : Nat) : perN k taps (itr k taps j st) = perN k taps st :=
  (perN_per M (h.itr M j)).uniq ((perN_per M h).turn M h j)
/-- the states of one 1 -/
def unitL (m i : Nat) : List Int := (List.range m).map fun j => if j = i then 1 else 0
theorem unitL_len (m i : Nat) : (unitL m i).length = m := by unfold unitL; rw [List.length_map, List.length_range]
theorem unitL_get {m i j : Nat} (h : j < m) : (unitL m i)[j]? = some (if j = i then 1 else 0) := by
  unfold unitL
  rw [List.getElem?_map, List.getElem?_range h]
  rfl
theorem unitL_code {m i : Nat} (h : i < m) : List.replicate i (0 : Int) ++ [1] ++ List.replicate (m - 1 - i) 0 = unitL m i := by
  refine List.ext_getElem? fun j => ?_
  by_cases hj : j < m
  · rw [unitL_get hj]
    rcases Nat.lt_trichotomy j i with z | z | z
    · rw [List.append_assoc, List.getElem?_append_left (by rw [List.length_replicate]; exact z), List.getElem?_replicate, if_pos z, if_neg (by omega)]
    · subst z
      rw [List.append_assoc, List.getElem?_append_right (by rw [List.length_replicate]; exact Nat.le_refl _), List.length_replicate, Nat.sub_self, if_pos rfl]
      rfl
    · rw [List.getElem?_append_right (by simp; omega), List.getElem?_replicate, if_pos (by simp; omega), if_neg (by omega)]
  · rw [List.getElem?_eq_none (by simp; omega), List.getElem?_eq_none (by rw [unitL_len]; omega)]
theorem Mach.two {k : Int} {taps : List Int} (M : Mach k taps) : 2 ≤ k := by
  have := M.kd
  omega
theorem unit_sta {k : Int} {taps : List Int} (M : Mach k taps) (i : Nat) : Sta k taps (unitL taps.length i) := by
  have := M.two
  refine ⟨unitL_len _ _, fun x hx => ?_⟩
  unfold unitL at hx
  obtain ⟨j, _, rfl⟩ := List.mem_map.mp hx
  split <;> omega
def zeroL (m : Nat) : List Int := List.replicate m 0
theorem zero_sta {k : Int} {taps : List Int} (M : Mach k taps) : Sta k taps (zeroL taps.length) := by
  have := M.two
  refine ⟨List.length_replicate, fun x hx => ?_⟩
  rw [(List.mem_replicate.mp hx).2]
  omega
theorem dot_zero : ∀ (t : List Int) (n : Nat), dotL t (zeroL n) = 0
  | [], n => by simp [dotL]
  | a :: t, 0 => by simp [dotL, zeroL]
  | a :: t, n + 1 => by
    have ih := dot_zero t n
    unfold dotL zeroL at ih ⊢
    rw [List.replicate_succ, List.zip_cons_cons, List.map_cons, List.sum_cons, ih]
    simp
theorem step_zero {k : Int} {taps : List Int} (M : Mach k taps) : stepL k taps (zeroL taps.length) = zeroL taps.length := by
  unfold stepL
  rw [dot_zero]
  obtain ⟨m, hm⟩ : ∃ m, taps.length = m + 1 := ⟨taps.length - 1, by have := M.pos; omega⟩
  unfold zeroL
  rw [hm, List.replicate_succ, List.tail_cons, Int.zero_emod, ← List.replicate_succ, List.replicate_succ']
theorem itr_zero {k : Int} {taps : List Int} (M : Mach k taps) : ∀ n, itr k taps n (zeroL taps.length) = zeroL taps.length
  | 0 => rfl
  | n + 1 => by
    show stepL k taps (itr k taps n _) = _
    rw [itr_zero M n, step_zero M]
theorem sumL_get {k : Int} {a b : List Int} {j : Nat} {x y : Int} (h1 : a[j]? = some x) (h2 : b[j]? = some y) : (sumL k a b)[j]? = some ((x + y) % k) := by
  unfold sumL
  rw [List.getElem?_map, show (a.zip b)[j]? = some (x, y) from List.getElem?_zip_eq_some.mpr ⟨h1, h2⟩]
  rfl
/-- a state is the sum of a lesser one and of one of one 1 -/
theorem split_unit {k : Int} {taps s : List Int} (M : Mach k taps) (h : Sta k taps s) {i : Nat} {x : Int} (hx : s[i]? = some x) (h0 : 0 < x) : Sta k taps (s.set i (x - 1)) ∧ sumL k (s.set i (x - 1)) (unitL taps.length i) = s := by
  have hi := (List.getElem?_eq_some_iff.mp hx).1
  have hxb := h.ok x (List.mem_of_getElem? hx)
  have h1 : Sta k taps (s.set i (x - 1)) := by
    refine ⟨by rw [List.length_set]; exact h.len, fun y hy => ?_⟩
    rcases List.mem_or_eq_of_mem_set hy with z | z
    · exact h.ok y z
    · omega
  refine ⟨h1, List.ext_getElem? fun j => ?_⟩
  by_cases hj : j < s.length
  · have hjl : j < taps.length := by rw [← h.len]; exact hj
    by_cases e : i = j
    · subst e
      rw [sumL_get (x := x - 1) (y := 1) (by rw [List.getElem?_set_self hi]) (by rw [unitL_get hjl, if_pos rfl]), hx, show x - 1 + 1 = x by omega, Int.emod_eq_of_lt hxb.1 hxb.2]
    · have hsj := List.getElem?_eq_getElem hj
      have hb := h.ok _ (List.getElem_mem hj)
      rw [sumL_get (x := s[j]) (y := 0) (by rw [List.getElem?_set_ne e]; exact hsj) (by rw [unitL_get hjl, if_neg (fun z => e z.symm)]), hsj, Int.add_zero, Int.emod_eq_of_lt hb.1 hb.2]
  · have hl : (sumL k (s.set i (x - 1)) (unitL taps.length i)).length = s.length := by
      rw [sumL_len k (by rw [List.length_set, unitL_len]; exact h.len), List.length_set]
    rw [List.getElem?_eq_none (by omega), List.getElem?_eq_none (by omega)]
theorem sum_set : ∀ {s : List Int} {i : Nat} {x y : Int}, s[i]? = some x → (s.set i y).sum = s.sum - x + y
  | [], _, _, _, h => by simp at h
  | a :: s, 0, x, y, h => by
    simp at h
    subst h
    rw [List.set_cons_zero, List.sum_cons, List.sum_cons]
    omega
  | a :: s, i + 1, x, y, h => by
    have ih := sum_set (s := s) (i := i) (x := x) (y := y) (by simpa using h)
    rw [List.set_cons_succ, List.sum_cons, List.sum_cons, ih]
    omega
theorem sum_nonneg : ∀ {s : List Int}, (∀ t ∈ s, 0 ≤ t) → 0 ≤ s.sum
  | [], _ => by simp
  | a :: s, h => by
    rw [List.sum_cons]
    have := h a List.mem_cons_self
    have := sum_nonneg fun t ht => h t (List.mem_cons_of_mem _ ht)
    omega
theorem all_zero : ∀ {s : List Int}, (∀ t ∈ s, t = 0) → s = zeroL s.length
  | [], _ => rfl
  | a :: s, h => by
    have e1 := h a List.mem_cons_self
    have e2 := all_zero fun t ht => h t (List.mem_cons_of_mem _ ht)
    unfold zeroL at e2 ⊢
    rw [List.length_cons, List.replicate_succ, ← e2, e1]
theorem fix_all {k : Int} {taps : List Int} (M : Mach k taps) {n : Nat} (hu : ∀ i, i < taps.length → itr k taps n (unitL taps.length i) = unitL taps.length i) : ∀ (b : Nat) (s : List Int), Sta k taps s → s.sum ≤ (b : Int) → itr k taps n s = s := by
  intro b
  induction b with
  | zero =>
    intro s h hs
    have hz : s = zeroL taps.length := by
      rw [← h.len]
      refine all_zero fun t ht => ?_
      obtain ⟨i, hi⟩ := List.getElem?_of_mem ht
      have hb := h.ok t ht
      have e := sum_set (y := 0) hi
      have h0 := sum_nonneg (s := s.set i 0) fun y hy => by
        rcases List.mem_or_eq_of_mem_set hy with z | z
        · exact (h.ok y z).1
        · omega
      have : s.sum ≤ 0 := by simpa using hs
      omega
    rw [hz]
    exact itr_zero M n
  | succ b ih =>
    intro s h hs
    by_cases hz : ∃ (i : Nat) (x : Int), s[i]? = some x ∧ 0 < x
    · obtain ⟨i, x, hx, h0⟩ := hz
      obtain ⟨h1, h2⟩ := split_unit M h hx h0
      have hi := (List.getElem?_eq_some_iff.mp hx).1
      have e := sum_set (y := x - 1) hx
      have ih1 := ih _ h1 (by omega)
      have e2 := sumL_itr M h1 (unit_sta M i) n
      rw [h2, ih1, hu i (by rw [← h.len]; exact hi), h2] at e2
      exact e2
    · have hz' : s = zeroL taps.length := by
        rw [← h.len]
        refine all_zero fun t ht => ?_
        obtain ⟨i, hi⟩ := List.getElem?_of_mem ht
        have hb := h.ok t ht
        have : ¬ 0 < t := fun z => hz ⟨i, t, hi, z⟩
        omega
      rw [hz']
      exact itr_zero M n
/-- the least common multiple of the units' rounds -/
noncomputable def ordK (k : Int) (taps : List Int) (i : Nat) : Nat := (List.range i).foldl (fun a j => Nat.lcm a (perN k taps (unitL taps.length j))) 1
theorem ordK_succ (k : Int) (taps : List Int) (i : Nat) : ordK k taps (i + 1) = Nat.lcm (ordK k taps i) (perN k taps (unitL taps.length i)) := by
  unfold ordK
  rw [List.range_succ, List.foldl_append]
  rfl
theorem ordK_dvd (k : Int) (taps : List Int) : ∀ {i j : Nat}, j < i → perN k taps (unitL taps.length j) ∣ ordK k taps i
  | i + 1, j, h => by
    rw [ordK_succ]
    rcases Nat.lt_or_ge j i with z | z
    · exact Nat.dvd_trans (ordK_dvd k taps z) (Nat.dvd_lcm_left _ _)
    · have : j = i := by omega
      rw [this]
      exact Nat.dvd_lcm_right _ _
theorem ordK_min (k : Int) (taps : List Int) {n : Nat} : ∀ {i : Nat}, (∀ j, j < i → perN k taps (unitL taps.length j) ∣ n) → ordK k taps i ∣ n
  | 0, _ => Nat.one_dvd n
  | i + 1, h => by
    rw [ordK_succ]
    exact Nat.lcm_dvd (ordK_min k taps fun j hj => h j (by omega)) (h i (by omega))
theorem ordK_pos {k : Int} {taps : List Int} (M : Mach k taps) : ∀ i, 0 < ordK k taps i
  | 0 => Nat.one_pos
  | i + 1 => by
    rw [ordK_succ]
    exact Nat.lcm_pos (ordK_pos M i) (perN_per M (unit_sta M i)).pos
theorem ord_back {k : Int} {taps s : List Int} (M : Mach k taps) (h : Sta k taps s) : itr k taps (ordK k taps taps.length) s = s :=
  fix_all M (fun i hi => (perN_per M (unit_sta M i)).dvd.mpr (ordK_dvd k taps hi)) s.sum.toNat s h (by omega)
def lcmL (ls : List Nat) : Nat := ls.foldl Nat.lcm 1
theorem lcmL_snoc (ls : List Nat) (x : Nat) : lcmL (ls ++ [x]) = Nat.lcm (lcmL ls) x := by
  unfold lcmL
  rw [List.foldl_append]
  rfl
theorem lcm_go : ∀ (ls : List Nat) (a : Nat), a ∣ ls.foldl Nat.lcm a ∧ ∀ x ∈ ls, x ∣ ls.foldl Nat.lcm a
  | [], a => ⟨Nat.dvd_refl a, fun x h => by cases h⟩
  | y :: ls, a => by
    obtain ⟨h1, h2⟩ := lcm_go ls (Nat.lcm a y)
    refine ⟨Nat.dvd_trans (Nat.dvd_lcm_left a y) h1, fun x hx => ?_⟩
    rcases List.mem_cons.mp hx with rfl | hx
    · exact Nat.dvd_trans (Nat.dvd_lcm_right a x) h1
    · exact h2 x hx
theorem lcm_min {n : Nat} : ∀ (ls : List Nat) (a : Nat), a ∣ n → (∀ x ∈ ls, x ∣ n) → ls.foldl Nat.lcm a ∣ n
  | [], _, h, _ => h
  | y :: ls, a, h, hl => lcm_min ls _ (Nat.lcm_dvd h (hl y List.mem_cons_self)) fun x hx => hl x (List.mem_cons_of_mem _ hx)
/-- what the law's lengths are -/
structure Lens (k : Int) (taps : List Int) (ls : List Nat) : Prop where
  of : ∀ l ∈ ls, ∃ s, Sta k taps s ∧ l = perN k taps s
  all : ∀ s, Sta k taps s → perN k taps s ∈ ls
theorem Lens.lcm {k : Int} {taps : List Int} {ls : List Nat} (M : Mach k taps) (L : Lens k taps ls) : lcmL ls = ordK k taps taps.length := by
  refine Nat.dvd_antisymm ?_ ?_
  · refine lcm_min ls 1 (Nat.one_dvd _) fun x hx => ?_
    obtain ⟨s, hs, rfl⟩ := L.of x hx
    exact (perN_per M hs).dvd.mp (ord_back M hs)
  · refine ordK_min k taps fun j hj => ?_
    exact (lcm_go ls 1).2 _ (L.all _ (unit_sta M j))
/-! ### all states -/
theorem wordsL_mem {k : Nat} : ∀ {l : Nat} {w : List Int}, w ∈ wordsL k l ↔ w.length = l ∧ ∀ d ∈ w, 0 ≤ d ∧ d < (k : Int)
  | 0, w => by
    unfold wordsL
    rw [List.mem_singleton]
    constructor
    · rintro rfl
      exact ⟨rfl, fun d h => by cases h⟩
    · rintro ⟨h, _⟩
      exact List.length_eq_zero_iff.mp h
  | l + 1, w => by
    rw [wordsL_succ, List.mem_flatMap]
    unfold extW
    constructor
    · rintro ⟨v, hv, hw⟩
      obtain ⟨d, hd, rfl⟩ := List.mem_map.mp hw
      obtain ⟨h1, h2⟩ := wordsL_mem.mp hv
      have := List.mem_range.mp hd
      refine ⟨by rw [List.length_append, h1]; rfl, fun x hx => ?_⟩
      rcases List.mem_append.mp hx with hx | hx
      · exact h2 x hx
      · rw [List.mem_singleton.mp hx]
        omega
    · rintro ⟨h1, h2⟩
      have hne : w ≠ [] := fun z => by rw [z] at h1; simp at h1
      obtain ⟨v, d, rfl⟩ : ∃ v d, w = v ++ [d] := ⟨w.dropLast, w.getLast hne, (List.dropLast_concat_getLast hne).symm⟩
      have hd := h2 d (by simp)
      refine ⟨v, wordsL_mem.mpr ⟨by simpa using h1, fun x hx => h2 x (List.mem_append_left _ hx)⟩, List.mem_map.mpr ⟨d.toNat, List.mem_range.mpr (by omega), ?_⟩⟩
      rw [Int.toNat_of_nonneg hd.1]
theorem sta_words {k : Nat} {taps s : List Int} : Sta (k : Int) taps s ↔ s ∈ wordsL k taps.length := by
  rw [wordsL_mem]
  exact ⟨fun h => ⟨h.len, h.ok⟩, fun h => ⟨h.1, h.2⟩⟩
/-! ### a round that has all states but one -/
def orbL (k : Int) (taps s : List Int) (i : Nat) : List (List Int) := (List.range i).map fun j => itr k taps j s
theorem orbL_succ (k : Int) (taps s : List Int) (i : Nat) : orbL k taps s (i + 1) = orbL k taps s i ++ [itr k taps i s] := by
  unfold orbL
  rw [List.range_succ, List.map_append]
  rfl
theorem orbL_mem {k : Int} {taps s x : List Int} {i : Nat} : x ∈ orbL k taps s i ↔ ∃ j, j < i ∧ itr k taps j s = x := by
  unfold orbL
  rw [List.mem_map]
  exact ⟨fun ⟨j, hj, e⟩ => ⟨j, List.mem_range.mp hj, e⟩, fun ⟨j, hj, e⟩ => ⟨j, List.mem_range.mpr hj, e⟩⟩
theorem orb_fresh {k : Int} {taps s : List Int} {p : Nat} (M : Mach k taps) (h : Sta k taps s) (P : Per k taps s p) {i : Nat} (hi : i < p) : itr k taps i s ∉ orbL k taps s i := fun z => by
  obtain ⟨j, hj, e⟩ := orbL_mem.mp z
  have e2 : itr k taps (i - j) s = s := by
    refine (itr_inj M h (h.itr M (i - j)) j ?_).symm
    rw [← itr_add, show j + (i - j) = i by omega]
    exact e
  exact P.first (i - j) (by omega) (by omega) e2
theorem orb_nodup {k : Int} {taps s : List Int} {p : Nat} (M : Mach k taps) (h : Sta k taps s) (P : Per k taps s p) : ∀ i, i ≤ p → (orbL k taps s i).Nodup
  | 0, _ => List.nodup_nil
  | i + 1, hi => by
    rw [orbL_succ]
    exact nd_snoc (orb_nodup M h P i (by omega)) (orb_fresh M h P (by omega))
theorem orb_zero {k : Int} {taps s : List Int} (M : Mach k taps) (h : Sta k taps s) {j : Nat} (e : itr k taps j s = zeroL taps.length) : s = zeroL taps.length :=
  itr_inj M h (zero_sta M) j (e.trans (itr_zero M j).symm)
theorem greatest_iff {k : Nat} {taps : List Int} (M : Mach (k : Int) taps) {ls : List Nat} (L : Lens (k : Int) taps ls) : perN k taps (unitL taps.length 0) = k ^ taps.length - 1 ↔ k ^ taps.length - 1 ∈ ls := by
  have hm : 0 < taps.length := by have := M.pos; omega
  have hu := unit_sta M 0
  have Pu := perN_per M hu
  have hune : unitL taps.length 0 ≠ zeroL taps.length := fun z => by
    have := congrArg (fun l => l[0]?) z
    simp only [unitL_get hm] at this
    unfold zeroL at this
    rw [List.getElem?_replicate, if_pos hm] at this
    simp at this
  have count : ∀ l : List (List Int), l.Nodup → (∀ x ∈ l, Sta (k : Int) taps x) → l.length ≤ k ^ taps.length := fun l hl hx => by
    have := nd_le (D := wordsL k taps.length) hl fun x hx' => sta_words.mp (hx x hx')
    rwa [wordsL_len] at this
  have orbS : ∀ {s : List Int} (i : Nat), Sta (k : Int) taps s → ∀ x ∈ orbL k taps s i, Sta (k : Int) taps x := fun i hs x hx => by
    obtain ⟨j, _, rfl⟩ := orbL_mem.mp hx
    exact hs.itr M j
  constructor
  · intro h
    rw [← h]
    exact L.all _ hu
  · intro h
    obtain ⟨s, hs, e⟩ := L.of _ h
    have P := perN_per M hs
    by_cases hz : s = zeroL taps.length
    · have p1 : perN k taps s = 1 := by
        rw [hz] at P ⊢
        have := P.dvd.mp (itr_zero M 1)
        exact Nat.dvd_one.mp this
      rw [e, p1]
      have hn : zeroL taps.length ∉ orbL k taps (unitL taps.length 0) (perN k taps (unitL taps.length 0)) := fun z => by
        obtain ⟨j, _, ej⟩ := orbL_mem.mp z
        exact hune (orb_zero M hu ej)
      have hc := count _ (nd_snoc (orb_nodup M hu Pu _ (Nat.le_refl _)) hn) fun x hx => by
        rcases List.mem_append.mp hx with hx | hx
        · exact orbS _ hu x hx
        · rw [List.mem_singleton.mp hx]
          exact zero_sta M
      rw [List.length_append, List.length_singleton] at hc
      unfold orbL at hc
      rw [List.length_map, List.length_range] at hc
      have := Pu.pos
      omega
    · have hn : zeroL taps.length ∉ orbL k taps s (perN k taps s) := fun z => by
        obtain ⟨j, _, ej⟩ := orbL_mem.mp z
        exact hz (orb_zero M hs ej)
      have hnd := nd_snoc (orb_nodup M hs P _ (Nat.le_refl _)) hn
      by_cases hin : unitL taps.length 0 ∈ orbL k taps s (perN k taps s) ++ [zeroL taps.length]
      · rcases List.mem_append.mp hin with hin | hin
        · obtain ⟨j, _, ej⟩ := orbL_mem.mp hin
          rw [← ej, perN_turn M hs, ← e]
        · exact absurd (List.mem_singleton.mp hin) hune
      · have hc := count _ (nd_snoc hnd hin) fun x hx => by
          rcases List.mem_append.mp hx with hx | hx
          · rcases List.mem_append.mp hx with hx | hx
            · exact orbS _ hs x hx
            · rw [List.mem_singleton.mp hx]
              exact zero_sta M
          · rw [List.mem_singleton.mp hx]
            exact hu
        rw [List.length_append, List.length_append, List.length_singleton, List.length_singleton] at hc
        unfold orbL at hc
        rw [List.length_map, List.length_range] at hc
        have hp : 0 < k ^ taps.length := Nat.pow_pos (by have := M.two; omega)
        omega
/-- behind the first t states -/
structure Gone (k : Nat) (taps : List Int) (t : Nat) (ws : List (List Int)) (ls : List Nat) : Prop where
  mem : ∀ x, x ∈ ws ↔ ∃ u, u ∈ (wordsL k taps.length).take t ∧ ∃ j, x = itr k taps j u
  of : ∀ l ∈ ls, ∃ s, Sta (k : Int) taps s ∧ l = perN k taps s
  all : ∀ u, u ∈ (wordsL k taps.length).take t → perN k taps u ∈ ls
  wn : ws.length ≤ 512 * t
  ln : ls.length ≤ t
theorem Gone.zero (k : Nat) (taps : List Int) : Gone k taps 0 [] [] := ⟨fun x => (by simp), fun l h => (by cases h), fun u h => (by simp at h), by simp, by simp⟩
theorem take_mem {α : Type} {xs : List α} {i : Nat} {x : α} (h : xs[i]? = some x) (y : α) : y ∈ xs.take (i + 1) ↔ y ∈ xs.take i ∨ y = x := by
  rw [take_one h, List.mem_append, List.mem_singleton]
theorem Gone.same {k : Nat} {taps u : List Int} {t : Nat} {ws : List (List Int)} {ls : List Nat} (M : Mach (k : Int) taps) (G : Gone k taps t ws ls) (hu : (wordsL k taps.length)[t]? = some u) (hin : u ∈ ws) : Gone k taps (t + 1) ws ls := by
  obtain ⟨v, hv, i, e⟩ := (G.mem u).mp hin
  have hvS : Sta (k : Int) taps v := sta_words.mpr (List.mem_of_mem_take hv)
  refine ⟨fun x => ?_, G.of, fun w hw => ?_, by have := G.wn; omega, by have := G.ln; omega⟩
  · rw [G.mem]
    constructor
    · rintro ⟨w, hw, j, rfl⟩
      exact ⟨w, (take_mem hu w).mpr (.inl hw), j, rfl⟩
    · rintro ⟨w, hw, j, rfl⟩
      rcases (take_mem hu w).mp hw with hw | rfl
      · exact ⟨w, hw, j, rfl⟩
      · exact ⟨v, hv, j + i, by rw [e, ← itr_add]⟩
  · rcases (take_mem hu w).mp hw with hw | rfl
    · exact G.all w hw
    · rw [e, perN_turn M hvS]
      exact G.all v hv
/-- the states of a round that didn't come yet didn't come -/
theorem Gone.new {k : Nat} {taps u : List Int} {t : Nat} {ws : List (List Int)} {ls : List Nat} (M : Mach (k : Int) taps) (G : Gone k taps t ws ls) (hu : Sta (k : Int) taps u) (hn : u ∉ ws) (i : Nat) : itr k taps i u ∉ ws := fun z => by
  obtain ⟨v, hv, j, e⟩ := (G.mem _).mp z
  have P := perN_per M hu
  refine hn ((G.mem u).mpr ⟨v, hv, (i * perN k taps u - i) + j, ?_⟩)
  rw [itr_add, ← e, ← itr_add]
  have h1 : i ≤ i * perN k taps u := Nat.le_mul_of_pos_right i P.pos
  rw [Nat.sub_add_cancel h1]
  exact (P.dvd.mpr (Nat.dvd_mul_left _ _)).symm
theorem Gone.more {k : Nat} {taps u : List Int} {t : Nat} {ws : List (List Int)} {ls : List Nat} (M : Mach (k : Int) taps) (G : Gone k taps t ws ls) (hu : (wordsL k taps.length)[t]? = some u) : Gone k taps (t + 1) (ws ++ orbL k taps u (perN k taps u)) (ls ++ [perN k taps u]) := by
  have huS : Sta (k : Int) taps u := sta_words.mpr (List.mem_of_getElem? hu)
  have P := perN_per M huS
  refine ⟨fun x => ?_, fun l hl => ?_, fun w hw => ?_, ?_, ?_⟩
  · rw [List.mem_append, G.mem, orbL_mem]
    constructor
    · rintro (⟨w, hw, j, rfl⟩ | ⟨j, _, rfl⟩)
      · exact ⟨w, (take_mem hu w).mpr (.inl hw), j, rfl⟩
      · exact ⟨u, (take_mem hu u).mpr (.inr rfl), j, rfl⟩
    · rintro ⟨w, hw, j, rfl⟩
      rcases (take_mem hu w).mp hw with hw | rfl
      · exact .inl ⟨w, hw, j, rfl⟩
      · exact .inr ⟨j % perN k taps w, Nat.mod_lt _ P.pos, P.mod j⟩
  · rcases List.mem_append.mp hl with hl | hl
    · exact G.of l hl
    · exact ⟨u, huS, List.mem_singleton.mp hl⟩
  · rcases (take_mem hu w).mp hw with hw | rfl
    · exact List.mem_append_left _ (G.all w hw)
    · simp
  · have := G.wn
    have := P.few
    rw [List.length_append]
    unfold orbL
    rw [List.length_map, List.length_range]
    omega
  · have := G.ln
    rw [List.length_append, List.length_singleton]
    omega
theorem Gone.lens {k : Nat} {taps : List Int} {ws : List (List Int)} {ls : List Nat} (G : Gone k taps (wordsL k taps.length).length ws ls) : Lens (k : Int) taps ls :=
  ⟨G.of, fun s hs => G.all s (by rw [List.take_length]; exact sta_words.mp hs)⟩

theorem cut3_from {α : Type} (xs : List α) (s : Nat) : cut3 xs (some (s : Int)) none = xs.drop s := by
  unfold cut3
  rw [HT.sIx_nat, HT.sIx_none]
  by_cases h : s ≤ xs.length
  · rw [Nat.min_eq_left h]
    exact List.take_of_length_le (by rw [List.length_drop]; exact Nat.le_refl _)
  · rw [Nat.min_eq_right (by omega), Nat.sub_self, List.take_zero, List.drop_eq_nil_of_le (by omega)]
/-! ### sums -/
def sumN : Nat → (Nat → Int) → Int
  | 0, _ => 0
  | n + 1, f => sumN n f + f n
theorem sumN_congr {f g : Nat → Int} : ∀ {n : Nat}, (∀ t, t < n → f t = g t) → sumN n f = sumN n g
  | 0, _ => rfl
  | n + 1, h => by
    show sumN n f + f n = sumN n g + g n
    rw [sumN_congr fun t ht => h t (by omega), h n (by omega)]
theorem sumN_zero : ∀ n : Nat, sumN n (fun _ => 0) = 0
  | 0 => rfl
  | n + 1 => by
    show sumN n (fun _ => 0) + 0 = 0
    rw [sumN_zero n, Int.add_zero]
theorem sumN_add (f g : Nat → Int) : ∀ n : Nat, sumN n (fun t => f t + g t) = sumN n f + sumN n g
  | 0 => rfl
  | n + 1 => by
    show sumN n (fun t => f t + g t) + (f n + g n) = sumN n f + f n + (sumN n g + g n)
    rw [sumN_add f g n]
    omega
theorem sumN_mul (f : Nat → Int) (m : Int) : ∀ n : Nat, sumN n (fun t => f t * m) = sumN n f * m
  | 0 => by show (0 : Int) = 0 * m; rw [Int.zero_mul]
  | n + 1 => by
    show sumN n (fun t => f t * m) + f n * m = (sumN n f + f n) * m
    rw [sumN_mul f m n, Int.add_mul]
theorem sumN_one (a : Nat) (d : Int) : ∀ n : Nat, sumN n (fun t => if t = a then d else 0) = if a < n then d else 0
  | 0 => by rw [if_neg (by omega)]; rfl
  | n + 1 => by
    show sumN n (fun t => if t = a then d else 0) + (if n = a then d else 0) = _
    rw [sumN_one a d n]
    by_cases h : n = a
    · subst h
      rw [if_neg (by omega), if_pos rfl, if_pos (by omega), Int.zero_add]
    · by_cases h2 : a < n
      · rw [if_pos h2, if_neg h, if_pos (by omega), Int.add_zero]
      · rw [if_neg h2, if_neg h, if_neg (by omega), Int.add_zero]
theorem sumN_mod {k : Int} {f g : Nat → Int} : ∀ {n : Nat}, (∀ t, t < n → f t % k = g t % k) → sumN n f % k = sumN n g % k
  | 0, _ => rfl
  | n + 1, h => by
    show (sumN n f + f n) % k = (sumN n g + g n) % k
    rw [Int.add_emod, sumN_mod fun t ht => h t (by omega), h n (by omega), ← Int.add_emod]
theorem sumN_upd (f : Nat → Int) (a : Nat) (d : Int) {n : Nat} (h : a < n) : sumN n (fun t => if t = a then f t + d else f t) = sumN n f + d := by
  have e : sumN n (fun t => if t = a then f t + d else f t) = sumN n fun t => f t + (if t = a then d else 0) := sumN_congr fun t _ => by
    by_cases h : t = a
    · rw [if_pos h, if_pos h]
    · rw [if_neg h, if_neg h, Int.add_zero]
  rw [e, sumN_add, sumN_one, if_pos h]
/-! ### rows that tell all, and nought in one way alone -/
structure Bas (k : Int) (n : Nat) (R : Nat → Nat → Int) : Prop where
  sp : ∀ x : Nat → Int, ∃ c : Nat → Int, ∀ j, j < n → (sumN n fun t => c t * R t j) % k = x j % k
  ind : ∀ c : Nat → Int, (∀ j, j < n → (sumN n fun t => c t * R t j) % k = 0) → ∀ t, t < n → c t % k = 0
theorem Bas.of {k : Int} {n : Nat} {R R' : Nat → Nat → Int} (B : Bas k n R) (T : (Nat → Int) → Nat → Int)
    (h : ∀ c j, j < n → (sumN n fun t => c t * R' t j) % k = (sumN n fun t => T c t * R t j) % k)
    (hs : ∀ c : Nat → Int, ∃ c' : Nat → Int, ∀ t, t < n → T c' t % k = c t % k) (hz : ∀ c : Nat → Int, (∀ t, t < n → T c t % k = 0) → ∀ t, t < n → c t % k = 0) : Bas k n R' := by
  refine ⟨fun x => ?_, fun c hc => hz c (B.ind (T c) fun j hj => by rw [← h c j hj]; exact hc j hj)⟩
  obtain ⟨c, hc⟩ := B.sp x
  obtain ⟨c', hc'⟩ := hs c
  refine ⟨c', fun j hj => ?_⟩
  rw [h c' j hj, ← hc j hj]
  exact sumN_mod fun t ht => by rw [Int.mul_emod, hc' t ht, ← Int.mul_emod]
theorem Bas.one (k : Int) (n : Nat) : Bas k n fun t j => if t = j then 1 else 0 := by
  have e : ∀ (c : Nat → Int) j, j < n → sumN n (fun t => c t * (if t = j then 1 else 0)) = c j := fun c j hj => by
    have := sumN_one j (c j) n
    rw [if_pos hj] at this
    rw [← this]
    refine sumN_congr fun t _ => ?_
    by_cases h : t = j
    · rw [if_pos h, if_pos h, Int.mul_one, h]
    · rw [if_neg h, if_neg h, Int.mul_zero]
  exact ⟨fun x => ⟨x, fun j hj => by rw [e x j hj]⟩, fun c hc t ht => by rw [← hc t ht, e c t ht]⟩
/-- one row by a factor that has one back -/
theorem Bas.sca {k : Int} {n : Nat} {R R' : Nat → Nat → Int} (B : Bas k n R) {top : Nat} {a b : Int} (hab : a * b % k = 1 % k)
    (h : ∀ t j, t < n → j < n → R' t j % k = (if t = top then R t j * a else R t j) % k) : Bas k n R' := by
  have red : ∀ z : Int, z * a * b % k = z % k := fun z => by
    rw [Int.mul_assoc, Int.mul_emod, hab, ← Int.mul_emod, Int.mul_one]
  refine B.of (fun c t => if t = top then c t * a else c t) (fun c j hj => sumN_mod fun t ht => ?_) (fun c => ⟨fun t => if t = top then c t * b else c t, fun t ht => ?_⟩) fun c hc t ht => ?_
  · rw [Int.mul_emod, h t j ht hj, ← Int.mul_emod]
    by_cases e : t = top
    · rw [if_pos e, if_pos e, ← Int.mul_assoc, Int.mul_assoc (c t) a, Int.mul_comm a, ← Int.mul_assoc]
    · rw [if_neg e, if_neg e]
  · show (if t = top then (if t = top then c t * b else c t) * a else (if t = top then c t * b else c t)) % k = _
    by_cases e : t = top
    · rw [if_pos e, if_pos e, Int.mul_assoc, Int.mul_comm b, ← Int.mul_assoc]
      exact red _
    · rw [if_neg e, if_neg e]
  · have := hc t ht
    by_cases e : t = top
    · rw [if_pos e] at this
      have h2 := red (c t)
      rw [Int.mul_emod, this, Int.zero_mul, Int.zero_emod] at h2
      exact h2.symm
    · rw [if_neg e] at this
      exact this
/-- two rows exchanged -/
theorem Bas.swp {k : Int} {n : Nat} {R R' : Nat → Nat → Int} (B : Bas k n R) {p q : Nat} (hp : p < n) (hq : q < n)
    (h : ∀ t j, t < n → R' t j = R (if t = p then q else if t = q then p else t) j) : Bas k n R' := by
  have inv : ∀ t : Nat, (if (if t = p then q else if t = q then p else t) = p then q else if (if t = p then q else if t = q then p else t) = q then p else (if t = p then q else if t = q then p else t)) = t := fun t => by
    by_cases e1 : t = p
    · subst e1
      rw [if_pos rfl]
      by_cases e3 : q = t
      · subst e3
        rw [if_pos rfl]
      · rw [if_neg e3, if_pos rfl]
    · rw [if_neg e1]
      by_cases e2 : t = q
      · subst e2
        rw [if_pos rfl, if_pos rfl]
      · rw [if_neg e2, if_neg e1, if_neg e2]
  have key : ∀ (f : Nat → Int), sumN n (fun t => f (if t = p then q else if t = q then p else t)) = sumN n f := fun f => by
    by_cases e : p = q
    · subst e
      refine sumN_congr fun t _ => ?_
      by_cases e1 : t = p
      · rw [if_pos e1, e1]
      · rw [if_neg e1, if_neg e1]
    · have e1 : sumN n (fun t => f (if t = p then q else if t = q then p else t)) = sumN n fun t => f t + ((if t = p then f q - f p else 0) + (if t = q then f p - f q else 0)) := sumN_congr fun t _ => by
        by_cases h1 : t = p
        · subst h1
          rw [if_pos rfl, if_pos rfl, if_neg e]
          omega
        · by_cases h2 : t = q
          · subst h2
            rw [if_neg h1, if_pos rfl, if_neg h1, if_pos rfl]
            omega
          · rw [if_neg h1, if_neg h2, if_neg h1, if_neg h2]
            omega
      rw [e1, sumN_add, sumN_add, sumN_one, sumN_one, if_pos hp, if_pos hq]
      omega
  have hlt : ∀ t, t < n → (if t = p then q else if t = q then p else t) < n := fun t ht => by
    split
    · exact hq
    · split
      · exact hp
      · exact ht
  refine B.of (fun c t => c (if t = p then q else if t = q then p else t)) (fun c j hj => ?_) (fun c => ⟨fun t => c (if t = p then q else if t = q then p else t), fun t ht => by show c _ % k = _; rw [inv t]⟩) fun c hc t ht => ?_
  · have := key fun t => c (if t = p then q else if t = q then p else t) * R t j
    rw [← this]
    congr 1
    refine sumN_congr fun t ht => ?_
    show _ = c (if (if t = p then q else if t = q then p else t) = p then q else if (if t = p then q else if t = q then p else t) = q then p else (if t = p then q else if t = q then p else t)) * R _ j
    rw [h t j ht, inv t]
  · have : c (if (if t = p then q else if t = q then p else t) = p then q else if (if t = p then q else if t = q then p else t) = q then p else (if t = p then q else if t = q then p else t)) % k = 0 := hc _ (hlt t ht)
    rw [inv t] at this
    exact this
/-- all rows but one less so many times that one -/
theorem Bas.les {k : Int} {n : Nat} {R R' : Nat → Nat → Int} (B : Bas k n R) {top : Nat} (htop : top < n) {m : Nat → Int} (hm : m top = 0)
    (h : ∀ t j, t < n → j < n → R' t j % k = (R t j - m t * R top j) % k) : Bas k n R' := by
  have sub : ∀ (f g : Nat → Int), sumN n (fun t => f t - g t) = sumN n f - sumN n g := fun f g => by
    have := sumN_add (fun t => f t - g t) g n
    have e : sumN n (fun t => f t - g t + g t) = sumN n f := sumN_congr fun t _ => by omega
    rw [e] at this
    omega
  have self : ∀ (c : Nat → Int) (u : Int), sumN n (fun t => (if t = top then c t + u else c t) * m t) = sumN n fun t => c t * m t := fun c u => sumN_congr fun t _ => by
    by_cases e : t = top
    · rw [e, hm, Int.mul_zero, Int.mul_zero]
    · rw [if_neg e]
  refine B.of (fun c t => if t = top then c t - sumN n (fun t => c t * m t) else c t) (fun c j hj => ?_) (fun c => ⟨fun t => if t = top then c t + sumN n (fun t => c t * m t) else c t, fun t ht => ?_⟩) fun c hc t ht => ?_
  · have e1 : sumN n (fun t => (if t = top then c t - sumN n (fun t => c t * m t) else c t) * R t j) = sumN n (fun t => c t * R t j) - sumN n (fun t => c t * m t) * R top j := by
      have := sumN_upd (fun t => c t * R t j) top (-(sumN n (fun t => c t * m t) * R top j)) htop
      rw [show sumN n (fun t => c t * R t j) - sumN n (fun t => c t * m t) * R top j = sumN n (fun t => c t * R t j) + -(sumN n (fun t => c t * m t) * R top j) by omega, ← this]
      refine sumN_congr fun t _ => ?_
      by_cases e : t = top
      · subst e
        rw [if_pos rfl, if_pos rfl, Int.sub_mul]
        omega
      · rw [if_neg e, if_neg e]
    rw [e1, ← sumN_mul, ← sub]
    refine sumN_mod fun t ht => ?_
    rw [Int.mul_emod, h t j ht hj, ← Int.mul_emod, Int.mul_sub, Int.mul_assoc]
  · dsimp only
    rw [self]
    by_cases e : t = top
    · rw [if_pos e, if_pos e]
      congr 1
      omega
    · rw [if_neg e, if_neg e]
  · have hc2 : ∀ t, t < n → t ≠ top → c t % k = 0 := fun t ht e => by
      have := hc t ht
      rw [if_neg e] at this
      exact this
    by_cases e : t = top
    · have h1 := hc t ht
      rw [if_pos e] at h1
      have h2 : sumN n (fun t => c t * m t) % k = 0 := by
        have : sumN n (fun t => c t * m t) % k = sumN n (fun _ => 0) % k := sumN_mod fun t ht => by
          by_cases e2 : t = top
          · rw [e2, hm, Int.mul_zero]
          · rw [Int.mul_emod, hc2 t ht e2, Int.zero_mul, Int.zero_emod]
        rw [this, sumN_zero, Int.zero_emod]
      rw [Int.sub_emod, h2, Int.sub_zero, Int.emod_emod] at h1
      exact h1
    · exact hc2 t ht e
/-! ### rows led to such that the first ones have each a place of their own -/
def Vc (k : Int) (n : Nat) (s : List Int) : Prop := s.length = n ∧ ∀ x ∈ s, 0 ≤ x ∧ x < k
def scaL (k a : Int) (r : List Int) : List Int := r.map fun x => x * a % k
def lesL (k m : Int) (r o : List Int) : List Int := (r.zip o).map fun p => (p.1 - m * p.2) % k
def enL (ss : List (List Int)) (t j : Nat) : Int := (ss.getD t []).getD j 0
theorem Vc.sca {k a : Int} {n : Nat} {s : List Int} (hk : 0 < k) (h : Vc k n s) : Vc k n (scaL k a s) := by
  refine ⟨by unfold scaL; rw [List.length_map, h.1], fun x hx => ?_⟩
  obtain ⟨y, _, rfl⟩ := List.mem_map.mp hx
  exact ⟨Int.emod_nonneg _ (by omega), Int.emod_lt_of_pos _ hk⟩
theorem Vc.les {k m : Int} {n : Nat} {s o : List Int} (hk : 0 < k) (h : Vc k n s) (h' : Vc k n o) : Vc k n (lesL k m s o) := by
  refine ⟨by unfold lesL; rw [List.length_map, List.length_zip, h.1, h'.1, Nat.min_self], fun x hx => ?_⟩
  obtain ⟨y, _, rfl⟩ := List.mem_map.mp hx
  exact ⟨Int.emod_nonneg _ (by omega), Int.emod_lt_of_pos _ hk⟩
theorem sca_at {k a : Int} {n j : Nat} {s : List Int} (h : Vc k n s) (hj : j < n) : (scaL k a s).getD j 0 = s.getD j 0 * a % k := by
  have hl : j < s.length := by rw [h.1]; exact hj
  unfold scaL
  rw [List.getD_eq_getElem?_getD, List.getD_eq_getElem?_getD, List.getElem?_map, List.getElem?_eq_getElem hl]
  rfl
theorem les_at {k m : Int} {n j : Nat} {s o : List Int} (h : Vc k n s) (h' : Vc k n o) (hj : j < n) : (lesL k m s o).getD j 0 = (s.getD j 0 - m * o.getD j 0) % k := by
  have hl : j < s.length := by rw [h.1]; exact hj
  have hl' : j < o.length := by rw [h'.1]; exact hj
  unfold lesL
  rw [List.getD_eq_getElem?_getD, List.getD_eq_getElem?_getD, List.getD_eq_getElem?_getD, List.getElem?_map, List.getElem?_eq_getElem hl, List.getElem?_eq_getElem hl', show (s.zip o)[j]? = some (s[j], o[j]) from List.getElem?_zip_eq_some.mpr ⟨List.getElem?_eq_getElem hl, List.getElem?_eq_getElem hl'⟩]
  rfl
/-- what shows of a row at a place -/
structure LinG (k : Int) (n : Nat) (g : List Int → Int) : Prop where
  rg : ∀ s, Vc k n s → 0 ≤ g s ∧ g s < k
  sc : ∀ a s, Vc k n s → g (scaL k a s) = g s * a % k
  ls : ∀ m s o, Vc k n s → Vc k n o → g (lesL k m s o) = (g s - m * g o) % k
def invL (k x : Int) : List Int := ((List.range k.toNat).map Int.ofNat).filter fun y => decide (y * x % k = 1)
def invF (k x : Int) : Int := (invL k x).headD 0
def prK (k : Int) : Prop := k = 2 ∨ k = 3 ∨ k = 5 ∨ k = 7
theorem inv_ok {k x : Int} (hk : prK k) (x0 : x ≠ 0) (x1 : 0 ≤ x) (x2 : x < k) : invL k x = invF k x :: (invL k x).tail ∧ x * invF k x % k = 1 := by
  rcases hk with rfl | rfl | rfl | rfl
  · have : x = 1 := by omega
    subst this
    decide
  · rcases (show x = 1 ∨ x = 2 by omega) with rfl | rfl <;> decide
  · rcases (show x = 1 ∨ x = 2 ∨ x = 3 ∨ x = 4 by omega) with rfl | rfl | rfl | rfl <;> decide
  · rcases (show x = 1 ∨ x = 2 ∨ x = 3 ∨ x = 4 ∨ x = 5 ∨ x = 6 by omega) with rfl | rfl | rfl | rfl | rfl | rfl <;> decide
def pivL (g : List Int → Int) (ss : List (List Int)) (top : Nat) : List Nat := ((List.range (ss.length - top)).map fun i => top + i).filter fun a => decide (g (ss.getD a []) ≠ 0)
def swpL (ss : List (List Int)) (p q : Nat) : List (List Int) := (ss.set p (ss.getD q [])).set q (ss.getD p [])
def topL (k : Int) (g : List Int → Int) (ss : List (List Int)) (top : Nat) : List (List Int) := ss.set top (scaL k (invF k (g (ss.getD top []))) (ss.getD top []))
def lesA (k : Int) (g : List Int → Int) (ss : List (List Int)) (top : Nat) : List (List Int) := (List.range ss.length).map fun i => if i = top then ss.getD top [] else lesL k (g (ss.getD i [])) (ss.getD i []) (ss.getD top [])
def stpF (k : Int) (g : List Int → Int) (p : Nat) (z : List (List Int) × List Nat) : List (List Int) × List Nat := match pivL g z.1 z.2.length with
  | [] => z
  | a :: _ => (lesA k g (topL k g (swpL z.1 z.2.length a) z.2.length) z.2.length, z.2 ++ [p])
def redF (k : Int) (g : Nat → List Int → Int) (ss : List (List Int)) : Nat → List (List Int) × List Nat
  | 0 => (ss, [])
  | p + 1 => stpF k (g p) p (redF k g ss p)
theorem getD_set {α : Type} (l : List α) (i j : Nat) (x d : α) : (l.set i x).getD j d = if i = j ∧ j < l.length then x else l.getD j d := by
  rw [List.getD_eq_getElem?_getD, List.getD_eq_getElem?_getD]
  by_cases e : i = j
  · subst e
    by_cases h : i < l.length
    · rw [List.getElem?_set_self h, if_pos ⟨rfl, h⟩]
      rfl
    · rw [if_neg (fun z => h z.2), List.getElem?_eq_none (by rw [List.length_set]; omega), List.getElem?_eq_none (by omega)]
  · rw [List.getElem?_set_ne e, if_neg fun z => e z.1]
theorem swp_len (ss : List (List Int)) (p q : Nat) : (swpL ss p q).length = ss.length := by unfold swpL; rw [List.length_set, List.length_set]
theorem swp_get {ss : List (List Int)} {p q t : Nat} (hp : p < ss.length) (hq : q < ss.length) : (swpL ss p q).getD t [] = ss.getD (if t = p then q else if t = q then p else t) [] := by
  unfold swpL
  rw [getD_set, getD_set, List.length_set]
  by_cases h1 : t = p
  · subst h1
    rw [if_pos rfl]
    by_cases h2 : q = t
    · subst h2
      rw [if_pos ⟨rfl, hq⟩]
    · rw [if_neg (fun z => h2 z.1), if_pos ⟨rfl, hp⟩]
  · rw [if_neg h1]
    by_cases h2 : t = q
    · subst h2
      rw [if_pos ⟨rfl, hq⟩, if_pos rfl]
    · rw [if_neg (fun z => h2 z.1.symm), if_neg (fun z => h1 z.1.symm), if_neg h2]
theorem top_get {k : Int} {g : List Int → Int} {ss : List (List Int)} {top t : Nat} (h : top < ss.length) : (topL k g ss top).getD t [] = if t = top then scaL k (invF k (g (ss.getD top []))) (ss.getD top []) else ss.getD t [] := by
  unfold topL
  rw [getD_set]
  by_cases e : top = t
  · subst e
    rw [if_pos ⟨rfl, h⟩, if_pos rfl]
  · rw [if_neg (fun z => e z.1), if_neg fun z => e z.symm]
theorem les_get {k : Int} {g : List Int → Int} {ss : List (List Int)} {top t : Nat} (h : t < ss.length) : (lesA k g ss top).getD t [] = if t = top then ss.getD top [] else lesL k (g (ss.getD t [])) (ss.getD t []) (ss.getD top []) := by
  unfold lesA
  rw [List.getD_eq_getElem?_getD, List.getElem?_map, List.getElem?_range h]
  rfl
structure Red (k : Int) (n : Nat) (g : Nat → List Int → Int) (p : Nat) (z : List (List Int) × List Nat) : Prop where
  len : z.1.length = n
  vc : ∀ t, t < n → Vc k n (z.1.getD t [])
  lt : ∀ q ∈ z.2, q < p
  le : z.2.length ≤ n
  dl : ∀ t q, z.2[t]? = some q → ∀ i, i < n → g q (z.1.getD i []) = if i = t then 1 else 0
  zr : ∀ q, q < p → ∀ i, z.2.length ≤ i → i < n → g q (z.1.getD i []) = 0
  bs : Bas k n (enL z.1)
theorem red_step {k : Int} {n p : Nat} {g : Nat → List Int → Int} {z : List (List Int) × List Nat} (hk : prK k) (G : ∀ q, LinG k n (g q)) (h : Red k n g p z) : Red k n g (p + 1) (stpF k (g p) p z) := by
  obtain ⟨ss, pl⟩ := z
  have hl := h.len
  dsimp only at hl
  have hk0 : 1 < k := by unfold prK at hk; omega
  have hm1 : (1 : Int) % k = 1 := Int.emod_eq_of_lt (by decide) hk0
  unfold stpF
  dsimp only
  cases hpv : pivL (g p) ss pl.length with
  | nil =>
    refine ⟨h.len, h.vc, fun q hq => by have := h.lt q hq; omega, h.le, h.dl, fun q hq i hi hin => ?_, h.bs⟩
    rcases Nat.lt_or_ge q p with hqp | hqp
    · exact h.zr q hqp i hi hin
    · have hqe : q = p := by omega
      subst hqe
      refine Classical.byContradiction fun hne => ?_
      have hm : i ∈ pivL (g q) ss pl.length := by
        dsimp only at hi hne
        refine List.mem_filter.mpr ⟨List.mem_map.mpr ⟨i - pl.length, List.mem_range.mpr (by omega), by omega⟩, decide_eq_true hne⟩
      rw [hpv] at hm
      cases hm
  | cons a r =>
    dsimp only
    have ham : a ∈ pivL (g p) ss pl.length := by rw [hpv]; exact List.mem_cons_self
    obtain ⟨ha1, ha2⟩ := List.mem_filter.mp ham
    obtain ⟨b, hb, rfl⟩ := List.mem_map.mp ha1
    have hb := List.mem_range.mp hb
    have hga := of_decide_eq_true ha2
    generalize ha : pl.length + b = a at *
    have htn : pl.length < n := by omega
    have han : a < n := by omega
    generalize htop : pl.length = top at *
    have e1 : ∀ t, (swpL ss top a).getD t [] = ss.getD (if t = top then a else if t = a then top else t) [] := fun t => swp_get (by omega) (by omega)
    have l1 := swp_len ss top a
    have vc1 : ∀ t, t < n → Vc k n ((swpL ss top a).getD t []) := fun t ht => by
      rw [e1]
      refine h.vc _ ?_
      split
      · exact han
      · split
        · exact htn
        · exact ht
    have b1 : Bas k n (enL (swpL ss top a)) := h.bs.swp htn han fun t j _ => by unfold enL; rw [e1]
    -- what shows of the rows now
    have old1 : ∀ q, q ∈ pl → ∀ i, i < n → top ≤ i → g q ((swpL ss top a).getD i []) = 0 := fun q hq i hi hti => by
      obtain ⟨t, ht, rfl⟩ := List.mem_iff_getElem.mp hq
      have hd := h.dl t pl[t] (List.getElem?_eq_getElem ht)
      rw [e1]
      have : (if i = top then a else if i = a then top else i) < n ∧ (if i = top then a else if i = a then top else i) ≠ t := by
        split
        · exact ⟨han, by omega⟩
        · split
          · exact ⟨htn, by omega⟩
          · exact ⟨hi, by omega⟩
      have h2 := hd _ this.1
      rw [if_neg this.2] at h2
      exact h2
    have low1 : ∀ i, i < top → (swpL ss top a).getD i [] = ss.getD i [] := fun i hi => by rw [e1, if_neg (by omega), if_neg (by omega)]
    have zr1 : ∀ q, q < p → ∀ i, top ≤ i → i < n → g q ((swpL ss top a).getD i []) = 0 := fun q hq i hti hi => by
      rw [e1]
      refine h.zr q hq _ ?_ ?_
      · show pl.length ≤ _
        rw [htop]
        split
        · omega
        · split
          · omega
          · exact hti
      · split
        · exact han
        · split
          · exact htn
          · exact hi
    have g1 : g p ((swpL ss top a).getD top []) ≠ 0 := by rw [e1, if_pos rfl]; exact hga
    generalize swpL ss top a = s1 at *
    have hs1 : s1.length = n := by omega
    have hin := inv_ok hk g1 ((G p).rg _ (vc1 top htn)).1 ((G p).rg _ (vc1 top htn)).2
    have e2 : ∀ t, (topL k (g p) s1 top).getD t [] = if t = top then scaL k (invF k (g p (s1.getD top []))) (s1.getD top []) else s1.getD t [] := fun t => top_get (by omega)
    have l2 : (topL k (g p) s1 top).length = n := by unfold topL; rw [List.length_set]; exact hs1
    have vc2 : ∀ t, t < n → Vc k n ((topL k (g p) s1 top).getD t []) := fun t ht => by
      rw [e2]
      split
      · exact (vc1 top htn).sca (by omega)
      · exact vc1 t ht
    have b2 : Bas k n (enL (topL k (g p) s1 top)) := b1.sca (top := top) (a := invF k (g p (s1.getD top []))) (b := g p (s1.getD top [])) (by rw [Int.mul_comm, hin.2, hm1]) fun t j ht hj => by
      unfold enL
      rw [e2]
      by_cases e : t = top
      · rw [if_pos e, if_pos e, sca_at (vc1 top htn) hj, Int.emod_emod, e]
      · rw [if_neg e, if_neg e]
    have old2 : ∀ q, q ∈ pl → ∀ i, i < n → top ≤ i → g q ((topL k (g p) s1 top).getD i []) = 0 := fun q hq i hi hti => by
      rw [e2]
      by_cases e : i = top
      · rw [if_pos e, (G q).sc _ _ (vc1 top htn), old1 q hq top htn (Nat.le_refl _), Int.zero_mul, Int.zero_emod]
      · rw [if_neg e]
        exact old1 q hq i hi hti
    have low2 : ∀ i, i < top → (topL k (g p) s1 top).getD i [] = ss.getD i [] := fun i hi => by rw [e2, if_neg (by omega), low1 i hi]
    have zr2 : ∀ q, q < p → ∀ i, top ≤ i → i < n → g q ((topL k (g p) s1 top).getD i []) = 0 := fun q hq i hti hi => by
      rw [e2]
      by_cases e : i = top
      · rw [if_pos e, (G q).sc _ _ (vc1 top htn), zr1 q hq top (Nat.le_refl _) htn, Int.zero_mul, Int.zero_emod]
      · rw [if_neg e]
        exact zr1 q hq i hti hi
    have g2 : g p ((topL k (g p) s1 top).getD top []) = 1 := by rw [e2, if_pos rfl, (G p).sc _ _ (vc1 top htn), hin.2]
    generalize topL k (g p) s1 top = s2 at *
    have e3 : ∀ t, t < n → (lesA k (g p) s2 top).getD t [] = if t = top then s2.getD top [] else lesL k (g p (s2.getD t [])) (s2.getD t []) (s2.getD top []) := fun t ht => les_get (by omega)
    have l3 : (lesA k (g p) s2 top).length = n := by unfold lesA; rw [List.length_map, List.length_range]; exact l2
    refine ⟨l3, fun t ht => ?_, fun q hq => ?_, by show (pl ++ [p]).length ≤ n; rw [List.length_append, List.length_singleton]; omega, fun t q hq i hi => ?_, fun q hq i hi hin2 => ?_, ?_⟩
    · dsimp only
      rw [e3 t ht]
      split
      · exact vc2 top htn
      · exact (vc2 t ht).les (by omega) (vc2 top htn)
    · rcases List.mem_append.mp hq with hq | hq
      · have := h.lt q hq
        omega
      · rw [List.mem_singleton.mp hq]
        omega
    · dsimp only at hq ⊢
      rw [e3 i hi]
      rcases Nat.lt_or_ge t pl.length with htl | htl
      · rw [List.getElem?_append_left htl] at hq
        have hqm := List.mem_of_getElem? hq
        by_cases e : i = top
        · rw [if_pos e, old2 q hqm top htn (Nat.le_refl _), if_neg (by omega)]
        · rw [if_neg e, (G q).ls _ _ _ (vc2 i hi) (vc2 top htn), old2 q hqm top htn (Nat.le_refl _), Int.mul_zero, Int.sub_zero]
          rcases Nat.lt_or_ge i top with hit | hit
          · rw [low2 i hit, h.dl t q hq i hi]
            split
            · exact hm1
            · exact Int.zero_emod _
          · rw [old2 q hqm i hi hit, if_neg (by omega), Int.zero_emod]
      · rw [List.getElem?_append_right htl] at hq
        have ht0 : t - pl.length = 0 := by
          rcases Nat.eq_zero_or_pos (t - pl.length) with e | e
          · exact e
          · rw [List.getElem?_eq_none (by rw [List.length_singleton]; omega)] at hq
            cases hq
        rw [ht0, List.getElem?_cons_zero] at hq
        cases hq
        have htt : t = top := by omega
        by_cases e : i = top
        · rw [if_pos e, g2, if_pos (by omega)]
        · rw [if_neg e, (G p).ls _ _ _ (vc2 i hi) (vc2 top htn), g2, Int.mul_one, Int.sub_self, Int.zero_emod, if_neg (by omega)]
    · dsimp only at hi ⊢
      rw [List.length_append, List.length_singleton, htop] at hi
      rw [e3 i hin2, if_neg (by omega)]
      rcases Nat.lt_or_ge q p with hqp | hqp
      · rw [(G q).ls _ _ _ (vc2 i hin2) (vc2 top htn), zr2 q hqp i (by omega) hin2, zr2 q hqp top (Nat.le_refl _) htn, Int.mul_zero, Int.sub_zero, Int.zero_emod]
      · have hqe : q = p := by omega
        subst hqe
        rw [(G q).ls _ _ _ (vc2 i hin2) (vc2 top htn), g2, Int.mul_one, Int.sub_self, Int.zero_emod]
    · refine b2.les htn (m := fun t => if t = top then 0 else g p (s2.getD t [])) (if_pos rfl) fun t j ht hj => ?_
      unfold enL
      rw [e3 t ht]
      by_cases e : t = top
      · rw [if_pos e, if_pos e, Int.zero_mul, Int.sub_zero, e]
      · rw [if_neg e, if_neg e, les_at (vc2 t ht) (vc2 top htn) hj, Int.emod_emod]
theorem red_all {k : Int} {n : Nat} {g : Nat → List Int → Int} {ss : List (List Int)} (hk : prK k) (G : ∀ q, LinG k n (g q)) (hl : ss.length = n) (hv : ∀ t, t < n → Vc k n (ss.getD t [])) (hb : Bas k n (enL ss)) : ∀ p, Red k n g p (redF k g ss p)
  | 0 => ⟨hl, hv, (fun q hq => nomatch hq), Nat.zero_le _, (by intro t q hq; change ([] : List Nat)[t]? = some q at hq; simp at hq), fun q hq => absurd hq (Nat.not_lt_zero _), hb⟩
  | p + 1 => red_step hk G (red_all hk G hl hv hb p)
/-! ### machines' rows -/
theorem dot_les {k m : Int} : ∀ (t a b : List Int), a.length = b.length → dotL t (lesL k m a b) % k = (dotL t a - m * dotL t b) % k
  | [], a, b, _ => by simp [dotL]
  | x :: t, [], [], _ => by simp [dotL, lesL]
  | x :: t, y :: a, z :: b, h => by
    have ih := dot_les (k := k) (m := m) t a b (by simpa using h)
    simp only [dotL, lesL, List.zip_cons_cons, List.map_cons, List.sum_cons] at ih ⊢
    generalize (List.map (fun p : Int × Int => p.1 * p.2) (t.zip (List.map (fun p : Int × Int => (p.1 - m * p.2) % k) (a.zip b)))).sum = u at *
    generalize (List.map (fun p : Int × Int => p.1 * p.2) (t.zip a)).sum = v at *
    generalize (List.map (fun p : Int × Int => p.1 * p.2) (t.zip b)).sum = w at *
    have e1 : (x * ((y - m * z) % k) + u) % k = (x * (y - m * z) + u) % k := by
      rw [Int.add_emod, Int.mul_emod, Int.emod_emod, ← Int.mul_emod, ← Int.add_emod]
    have e2 : x * y + v - m * (x * z + w) = x * (y - m * z) + (v - m * w) := by
      rw [Int.mul_sub, Int.mul_add, ← Int.mul_assoc, ← Int.mul_assoc, Int.mul_comm x m]
      omega
    rw [e1, e2, Int.add_emod, ih, ← Int.add_emod]
  | _ :: _, [], _ :: _, h => by cases h
  | _ :: _, _ :: _, [], h => by cases h
theorem dot_sca {k m : Int} : ∀ (t a : List Int), dotL t (scaL k m a) % k = (dotL t a * m) % k
  | [], a => by simp [dotL]
  | x :: t, [] => by simp [dotL, scaL]
  | x :: t, y :: a => by
    have ih := dot_sca (k := k) (m := m) t a
    simp only [dotL, scaL, List.zip_cons_cons, List.map_cons, List.sum_cons] at ih ⊢
    generalize (List.map (fun p : Int × Int => p.1 * p.2) (t.zip (List.map (fun x => x * m % k) a))).sum = u at *
    generalize (List.map (fun p : Int × Int => p.1 * p.2) (t.zip a)).sum = v at *
    have e1 : (x * (y * m % k) + u) % k = (x * (y * m) + u) % k := by
      rw [Int.add_emod, Int.mul_emod, Int.emod_emod, ← Int.mul_emod, ← Int.add_emod]
    have e2 : (x * y + v) * m = x * (y * m) + v * m := by rw [Int.add_mul, Int.mul_assoc]
    rw [e1, e2, Int.add_emod, ih, ← Int.add_emod]
theorem Sta.vc {k : Int} {taps s : List Int} (h : Sta k taps s) : Vc k taps.length s := ⟨h.len, h.ok⟩
theorem Vc.sta {k : Int} {taps s : List Int} (h : Vc k taps.length s) : Sta k taps s := ⟨h.1, h.2⟩
theorem les_step {k m : Int} {taps a b : List Int} (h : Sta k taps a) (h' : Sta k taps b) : stepL k taps (lesL k m a b) = lesL k m (stepL k taps a) (stepL k taps b) := by
  have hl : a.length = b.length := h.len.trans h'.len.symm
  unfold stepL
  have e : dotL taps (lesL k m a b) % k = (dotL taps a % k - m * (dotL taps b % k)) % k := by
    have key : ∀ x y : Int, (x % k - m * (y % k)) % k = (x - m * y) % k := fun x y => by
      rw [Int.sub_emod, Int.emod_emod, Int.mul_emod, Int.emod_emod, ← Int.mul_emod, ← Int.sub_emod]
    rw [dot_les taps a b hl, key]
  rw [e]
  unfold lesL
  have hz : (a.tail ++ [dotL taps a % k]).zip (b.tail ++ [dotL taps b % k]) = a.tail.zip b.tail ++ [(dotL taps a % k, dotL taps b % k)] := by
    rw [List.zip_append (by rw [List.length_tail, List.length_tail, hl])]
    rfl
  rw [hz, List.map_append]
  congr 1
  cases a with
  | nil => simp
  | cons x a => cases b with
    | nil => simp
    | cons y b => simp
theorem sca_step {k m : Int} {taps a : List Int} : stepL k taps (scaL k m a) = scaL k m (stepL k taps a) := by
  unfold stepL
  have e : dotL taps (scaL k m a) % k = (dotL taps a % k) * m % k := by
    rw [dot_sca taps a, Int.mul_emod (dotL taps a % k), Int.emod_emod, ← Int.mul_emod]
  rw [e]
  unfold scaL
  rw [List.map_append]
  congr 1
  cases a with
  | nil => simp
  | cons x a => simp
theorem les_itr {k m : Int} {taps a b : List Int} (M : Mach k taps) (h : Sta k taps a) (h' : Sta k taps b) : ∀ n, itr k taps n (lesL k m a b) = lesL k m (itr k taps n a) (itr k taps n b)
  | 0 => rfl
  | n + 1 => by
    show stepL k taps (itr k taps n (lesL k m a b)) = _
    rw [les_itr M h h' n, les_step (h.itr M n) (h'.itr M n)]
    rfl
theorem sca_itr {k m : Int} {taps a : List Int} : ∀ n, itr k taps n (scaL k m a) = scaL k m (itr k taps n a)
  | 0 => rfl
  | n + 1 => by
    show stepL k taps (itr k taps n (scaL k m a)) = _
    rw [sca_itr n, sca_step]
    rfl
theorem hdI_les {k m : Int} {a b : List Int} (ha : a ≠ []) (hb : b ≠ []) : hdI (lesL k m a b) = (hdI a - m * hdI b) % k := by
  cases a with
  | nil => exact absurd rfl ha
  | cons x a => cases b with
    | nil => exact absurd rfl hb
    | cons y b => rfl
theorem hdI_sca {k m : Int} {a : List Int} (ha : a ≠ []) : hdI (scaL k m a) = hdI a * m % k := by
  cases a with
  | nil => exact absurd rfl ha
  | cons x a => rfl
def shG (k : Int) (taps : List Int) (pat : List Nat) (q : Nat) (s : List Int) : Int := hdI (itr k taps (pat.getD q 0) s)
theorem shG_lin {k : Int} {taps : List Int} (M : Mach k taps) (pat : List Nat) (q : Nat) : LinG k taps.length (shG k taps pat q) := by
  refine ⟨fun s hs => ?_, fun a s hs => ?_, fun m s o hs ho => ?_⟩
  · have := hs.sta.itr M (pat.getD q 0)
    exact this.ok _ (hdI_mem (this.ne M))
  · unfold shG
    rw [sca_itr, hdI_sca ((hs.sta.itr M _).ne M)]
  · unfold shG
    rw [les_itr M hs.sta ho.sta, hdI_les ((hs.sta.itr M _).ne M) ((ho.sta.itr M _).ne M)]
/-- a whole row: what shows of a state, and the state -/
def rowS (k : Int) (taps : List Int) (pat : List Nat) (s : List Int) : List Int := seen k taps pat s ++ s
theorem seen_at {k : Int} {taps : List Int} {pat : List Nat} {s : List Int} {q : Nat} (hq : q < pat.length) : (seen k taps pat s)[q]? = some (shG k taps pat q s) := by
  unfold seen shG
  rw [List.getElem?_map, List.getElem?_eq_getElem hq, List.getD_eq_getElem?_getD, List.getElem?_eq_getElem hq]
  rfl
theorem row_at {k : Int} {taps : List Int} {pat : List Nat} {s : List Int} {q : Nat} (hq : q < pat.length) : (rowS k taps pat s)[q]? = some (shG k taps pat q s) := by
  unfold rowS
  rw [List.getElem?_append_left (by rw [seen_len]; exact hq), seen_at hq]
theorem row_sca {k a : Int} {taps : List Int} {pat : List Nat} {s : List Int} (M : Mach k taps) (h : Sta k taps s) : scaL k a (rowS k taps pat s) = rowS k taps pat (scaL k a s) := by
  unfold rowS
  have : scaL k a (seen k taps pat s ++ s) = scaL k a (seen k taps pat s) ++ scaL k a s := by unfold scaL; rw [List.map_append]
  rw [this]
  congr 1
  unfold seen scaL
  rw [List.map_map]
  refine List.map_congr_left fun n _ => ?_
  have := sca_itr (k := k) (m := a) (taps := taps) (a := s) n
  unfold scaL at this
  show hdI (itr k taps n s) * a % k = _
  rw [this]
  exact (hdI_sca (k := k) (m := a) ((h.itr M n).ne M)).symm
theorem row_les {k m : Int} {taps : List Int} {pat : List Nat} {s o : List Int} (M : Mach k taps) (h : Sta k taps s) (h' : Sta k taps o) : lesL k m (rowS k taps pat s) (rowS k taps pat o) = rowS k taps pat (lesL k m s o) := by
  unfold rowS
  have : lesL k m (seen k taps pat s ++ s) (seen k taps pat o ++ o) = lesL k m (seen k taps pat s) (seen k taps pat o) ++ lesL k m s o := by
    unfold lesL
    rw [List.zip_append (by rw [seen_len, seen_len]), List.map_append]
  rw [this]
  congr 1
  unfold seen
  have hz : ∀ l : List Nat, lesL k m (l.map fun n => hdI (itr k taps n s)) (l.map fun n => hdI (itr k taps n o)) = l.map fun n => hdI (itr k taps n (lesL k m s o)) := fun l => by
    induction l with
    | nil => rfl
    | cons n l ih =>
      have e : lesL k m ((n :: l).map fun n => hdI (itr k taps n s)) ((n :: l).map fun n => hdI (itr k taps n o)) = (hdI (itr k taps n s) - m * hdI (itr k taps n o)) % k :: lesL k m (l.map fun n => hdI (itr k taps n s)) (l.map fun n => hdI (itr k taps n o)) := rfl
      rw [e, ih, List.map_cons, les_itr M h h', hdI_les ((h.itr M n).ne M) ((h'.itr M n).ne M)]
  exact hz pat
def natL (c : List Nat) : List PyData := c.map fun x : Nat => PyData.int x
theorem natL_ints (c : List Nat) : natL c = (c.map Int.ofNat).map PyData.int := by
  unfold natL
  rw [List.map_map]
  rfl
def rowsD (k : Int) (taps : List Int) (pat : List Nat) (ss : List (List Int)) : List PyData := ss.map fun s => tupI (rowS k taps pat s)
theorem rowsD_at {k : Int} {taps : List Int} {pat : List Nat} {ss : List (List Int)} {t : Nat} (h : t < ss.length) : (rowsD k taps pat ss)[t]? = some (tupI (rowS k taps pat (ss.getD t []))) := by
  unfold rowsD
  rw [List.getElem?_map, List.getElem?_eq_getElem h, List.getD_eq_getElem?_getD, List.getElem?_eq_getElem h]
  rfl
theorem rowsD_set (k : Int) (taps : List Int) (pat : List Nat) (ss : List (List Int)) (t : Nat) (s : List Int) : (rowsD k taps pat ss).set t (tupI (rowS k taps pat s)) = rowsD k taps pat (ss.set t s) := by
  unfold rowsD
  rw [List.map_set]
theorem rowsD_len (k : Int) (taps : List Int) (pat : List Nat) (ss : List (List Int)) : (rowsD k taps pat ss).length = ss.length := by unfold rowsD; rw [List.length_map]
theorem rowS_ok {k : Int} {taps s : List Int} {pat : List Nat} (M : Mach k taps) (h : Sta k taps s) : ∀ x ∈ rowS k taps pat s, 0 ≤ x ∧ x < k := fun x hx => by
  unfold rowS at hx
  rcases List.mem_append.mp hx with hx | hx
  · exact seen_ok M h x hx
  · exact h.ok x hx
theorem natL_len (c : List Nat) : (natL c).length = c.length := by unfold natL; rw [List.length_map]
theorem depthAll_ints1 : ∀ ws : List Int, PyData.depthAll (ws.map PyData.int) = 0
  | [] => by rw [List.map_nil]; unfold PyData.depthAll; rfl
  | w :: ws => by
    rw [List.map_cons]
    unfold PyData.depthAll
    rw [depthAll_ints1 ws]
    rfl
theorem canLayAll0_ints1 : ∀ ws : List Int, PyData.canLayAll0 (ws.map PyData.int) = true
  | [] => by rw [List.map_nil]; unfold PyData.canLayAll0; rfl
  | w :: ws => by
    rw [List.map_cons]
    unfold PyData.canLayAll0
    rw [canLayAll0_ints1 ws]
    rfl
theorem shaped_lints1 (ws : List Int) : SeqAt.shaped (.list (ws.map PyData.int)) = true := by
  unfold SeqAt.shaped PyData.canLay0 PyData.depth
  rw [canLayAll0_ints1, depthAll_ints1]
  rfl
theorem natL_sh (c : List Nat) : SeqAt.shaped (.list (natL c)) = true := by rw [natL_ints]; exact shaped_lints1 _
theorem natL_eqn (c : List Nat) : PyData.eqv (.list (natL c)) (.list []) = decide (c = []) := by
  cases c with
  | nil => simp [natL, PyData.eqv, PyData.eqvAll]
  | cons x c => simp [natL, PyData.eqv, PyData.eqvAll]
theorem ixN_natK {n k : Nat} (h : k < n) : ixN n ((k : Nat) : Int) = some k := by
  unfold ixN
  rw [if_pos (by omega), if_pos (by omega), Int.toNat_natCast]
theorem rowsD_setT (k : Int) (taps : List Int) (pat : List Nat) (ss : List (List Int)) (t : Nat) (s : List Int) : (rowsD k taps pat ss).set t (.tuple ((rowS k taps pat s).map PyData.int)) = rowsD k taps pat (ss.set t s) := rowsD_set k taps pat ss t s
theorem swp_vc {k : Int} {n : Nat} {ss : List (List Int)} {p q : Nat} (hl : ss.length = n) (hv : ∀ t, t < n → Vc k n (ss.getD t [])) (hp : p < n) (hq : q < n) : ∀ t, t < n → Vc k n ((swpL ss p q).getD t []) := fun t ht => by
  rw [swp_get (by omega) (by omega)]
  refine hv _ ?_
  split
  · exact hq
  · split
    · exact hp
    · exact ht
theorem top_vc {k : Int} {n : Nat} {g : List Int → Int} {ss : List (List Int)} {top : Nat} (hk : 0 < k) (hl : ss.length = n) (hv : ∀ t, t < n → Vc k n (ss.getD t [])) (hp : top < n) : ∀ t, t < n → Vc k n ((topL k g ss top).getD t []) := fun t ht => by
  rw [top_get (by omega)]
  split
  · exact (hv top hp).sca hk
  · exact hv t ht
/-- the rows from the first on, so many of them done -/
def parL (k : Int) (g : List Int → Int) (ss : List (List Int)) (top i : Nat) : List (List Int) := (List.range ss.length).map fun t => if t < i ∧ t ≠ top then lesL k (g (ss.getD t [])) (ss.getD t []) (ss.getD top []) else ss.getD t []
theorem parL_len (k : Int) (g : List Int → Int) (ss : List (List Int)) (top i : Nat) : (parL k g ss top i).length = ss.length := by unfold parL; rw [List.length_map, List.length_range]
theorem parL_get {k : Int} {g : List Int → Int} {ss : List (List Int)} {top i t : Nat} (h : t < ss.length) : (parL k g ss top i).getD t [] = if t < i ∧ t ≠ top then lesL k (g (ss.getD t [])) (ss.getD t []) (ss.getD top []) else ss.getD t [] := by
  unfold parL
  rw [List.getD_eq_getElem?_getD, List.getElem?_map, List.getElem?_range h]
  rfl
theorem parL_zero (k : Int) (g : List Int → Int) (ss : List (List Int)) (top : Nat) : parL k g ss top 0 = ss := by
  unfold parL
  refine List.ext_getElem? fun t => ?_
  rcases Nat.lt_or_ge t ss.length with h | h
  · rw [List.getElem?_map, List.getElem?_range h, Option.map_some, if_neg (fun z => absurd z.1 (Nat.not_lt_zero _)), List.getD_eq_getElem?_getD, List.getElem?_eq_getElem h]
    rfl
  · rw [List.getElem?_eq_none (by rw [List.length_map, List.length_range]; exact h), List.getElem?_eq_none h]
theorem parL_all (k : Int) (g : List Int → Int) (ss : List (List Int)) (top : Nat) : parL k g ss top ss.length = lesA k g ss top := by
  unfold parL lesA
  refine List.map_congr_left fun t ht => ?_
  have ht := List.mem_range.mp ht
  by_cases h : t = top
  · rw [if_neg (fun z => z.2 h), if_pos h, h]
  · rw [if_pos ⟨ht, h⟩, if_neg h]
theorem parL_top (k : Int) (g : List Int → Int) (ss : List (List Int)) (top : Nat) : parL k g ss top (top + 1) = parL k g ss top top := by
  unfold parL
  refine List.map_congr_left fun t _ => ?_
  by_cases h : t = top
  · rw [if_neg (fun z => z.2 h), if_neg (fun z => z.2 h)]
  · by_cases h2 : t < top
    · rw [if_pos ⟨by omega, h⟩, if_pos ⟨h2, h⟩]
    · rw [if_neg (by omega), if_neg (by omega)]
theorem parL_set {k : Int} {g : List Int → Int} {ss : List (List Int)} {top i : Nat} (hi : i < ss.length) (h : i ≠ top) : (parL k g ss top i).set i (lesL k (g (ss.getD i [])) (ss.getD i []) (ss.getD top [])) = parL k g ss top (i + 1) := by
  refine List.ext_getElem? fun t => ?_
  by_cases e : i = t
  · subst e
    rw [List.getElem?_set_self (by rw [parL_len]; exact hi)]
    unfold parL
    rw [List.getElem?_map, List.getElem?_range hi, Option.map_some, if_pos ⟨by omega, h⟩]
  · rw [List.getElem?_set_ne e]
    rcases Nat.lt_or_ge t ss.length with ht | ht
    · unfold parL
      rw [List.getElem?_map, List.getElem?_map, List.getElem?_range ht, Option.map_some, Option.map_some]
      congr 1
      by_cases h2 : t < i ∧ t ≠ top
      · rw [if_pos h2, if_pos ⟨by omega, h2.2⟩]
      · rw [if_neg h2, if_neg fun z => h2 ⟨by omega, z.2⟩]
    · rw [List.getElem?_eq_none (by rw [parL_len]; exact ht), List.getElem?_eq_none (by rw [parL_len]; exact ht)]
def uniS (n : Nat) : List (List Int) := (List.range n).map fun i => unitL n i
def facL (z : List (List Int) × List Nat) (w at_ : Nat) : List Int := (z.1.zip z.2).foldl (fun f p => f.set p.2 (p.1.getD at_ 0)) (List.replicate w 0)
def judD (k : Int) (taps : List Int) (pat : List Nat) : PyData :=
  let z := redF k (shG k taps pat) (uniS taps.length) pat.length
  if z.2.length < taps.length then .tuple [.str (PySem.Str.ofString "blind"), tupI (z.1.getD z.2.length [])]
  else .tuple [.str (PySem.Str.ofString "sees"), .tuple ((List.range taps.length).map fun a => tupI (facL z pat.length a))]
theorem uniS_len (n : Nat) : (uniS n).length = n := by unfold uniS; rw [List.length_map, List.length_range]
theorem uniS_get {n t : Nat} (h : t < n) : (uniS n).getD t [] = unitL n t := by
  unfold uniS
  rw [List.getD_eq_getElem?_getD, List.getElem?_map, List.getElem?_range h]
  rfl
theorem uni_bas (k : Int) (n : Nat) : Bas k n (enL (uniS n)) := by
  refine (Bas.one k n).of (fun c => c) (fun c j hj => sumN_mod fun t ht => ?_) (fun c => ⟨c, fun _ _ => rfl⟩) fun c h => h
  have e : enL (uniS n) t j = if t = j then 1 else 0 := by
    unfold enL
    rw [uniS_get ht, List.getD_eq_getElem?_getD, unitL_get hj]
    show (if j = t then (1 : Int) else 0) = _
    by_cases h : j = t
    · rw [if_pos h, if_pos h.symm]
    · rw [if_neg h, if_neg fun z => h z.symm]
  rw [e]
theorem uni_vc {k : Int} {taps : List Int} (M : Mach k taps) : ∀ t, t < taps.length → Vc k taps.length ((uniS taps.length).getD t []) := fun t ht => by
  rw [uniS_get ht]
  exact (unit_sta M t).vc
theorem jud_red {k : Int} {taps : List Int} (M : Mach k taps) (pat : List Nat) : Red k taps.length (shG k taps pat) pat.length (redF k (shG k taps pat) (uniS taps.length) pat.length) :=
  red_all (by have := M.kd; unfold prK; omega) (fun q => shG_lin M pat q) (uniS_len _) (uni_vc M) (uni_bas k _) _
def facT (z : List (List Int) × List Nat) (w at_ i : Nat) : List Int := ((z.1.zip z.2).take i).foldl (fun f p => f.set p.2 (p.1.getD at_ 0)) (List.replicate w 0)
theorem facT_len (z : List (List Int) × List Nat) (w at_ i : Nat) : (facT z w at_ i).length = w := by
  unfold facT
  generalize (z.1.zip z.2).take i = l
  have : ∀ (l : List (List Int × Nat)) (f : List Int), (l.foldl (fun f p => f.set p.2 (p.1.getD at_ 0)) f).length = f.length := fun l => by
    induction l with
    | nil => exact fun _ => rfl
    | cons p l ih => exact fun f => by rw [List.foldl_cons, ih, List.length_set]
  rw [this, List.length_replicate]
theorem facT_one {z : List (List Int) × List Nat} {w at_ i : Nat} {r : List Int} {p : Nat} (h : (z.1.zip z.2)[i]? = some (r, p)) : facT z w at_ (i + 1) = (facT z w at_ i).set p (r.getD at_ 0) := by
  unfold facT
  rw [take_one h, List.foldl_append]
  rfl
theorem rowS_drop {k : Int} {taps s : List Int} {pat : List Nat} : (rowS k taps pat s).drop pat.length = s := by
  unfold rowS
  rw [List.drop_append_of_le_length (by rw [seen_len]; exact Nat.le_refl _), List.drop_of_length_le (by rw [seen_len]; exact Nat.le_refl _), List.nil_append]
theorem rowS_at {k : Int} {taps s : List Int} {pat : List Nat} {n a : Nat} (h : Vc k n s) (ha : a < n) : (rowS k taps pat s)[pat.length + a]? = some (s.getD a 0) := by
  unfold rowS
  rw [List.getElem?_append_right (by rw [seen_len]; omega), seen_len, Nat.add_sub_cancel_left, List.getD_eq_getElem?_getD, List.getElem?_eq_getElem (by rw [h.1]; exact ha)]
  rfl
theorem facL_T {z : List (List Int) × List Nat} {w a : Nat} : facT z w a (z.1.zip z.2).length = facL z w a := by
  unfold facT facL
  rw [List.take_length]
/-! ### what judged tells is right -/
def lcV (k : Int) (n : Nat) (ss : List (List Int)) (c : Nat → Int) : Nat → List Int
  | 0 => List.replicate n 0
  | t + 1 => lesL k (-(c t)) (lcV k n ss c t) (ss.getD t [])
theorem zer_vc {k : Int} (hk : 0 < k) (n : Nat) : Vc k n (List.replicate n 0) := ⟨List.length_replicate, fun x hx => by rw [(List.mem_replicate.mp hx).2]; omega⟩
theorem lcV_vc {k : Int} {n : Nat} {ss : List (List Int)} (hk : 0 < k) (hv : ∀ t, t < n → Vc k n (ss.getD t [])) (c : Nat → Int) : ∀ t, t ≤ n → Vc k n (lcV k n ss c t)
  | 0, _ => zer_vc hk n
  | t + 1, h => (lcV_vc hk hv c t (by omega)).les hk (hv t (by omega))
theorem lcV_at {k : Int} {n : Nat} {ss : List (List Int)} (hk : 0 < k) (hv : ∀ t, t < n → Vc k n (ss.getD t [])) (c : Nat → Int) {j : Nat} (hj : j < n) : ∀ t, t ≤ n → (lcV k n ss c t).getD j 0 = (sumN t fun t => c t * enL ss t j) % k
  | 0, _ => by
    show (List.replicate n (0 : Int)).getD j 0 = 0 % k
    rw [List.getD_eq_getElem?_getD, List.getElem?_replicate, if_pos hj, Int.zero_emod]
    rfl
  | t + 1, h => by
    show (lesL k (-(c t)) (lcV k n ss c t) (ss.getD t [])).getD j 0 = (sumN t (fun t => c t * enL ss t j) + c t * enL ss t j) % k
    rw [les_at (lcV_vc hk hv c t (by omega)) (hv t (by omega)) hj, lcV_at hk hv c hj t (by omega)]
    have e : ∀ a b : Int, (a % k - -(c t) * b) % k = (a + c t * b) % k := fun a b => by
      rw [Int.neg_mul, Int.sub_neg, Int.add_emod, Int.emod_emod, ← Int.add_emod]
    exact e _ _
theorem lin_zer {k : Int} {n : Nat} {g : List Int → Int} (hk : 0 < k) (G : LinG k n g) : g (List.replicate n 0) = 0 := by
  have h := G.sc 0 _ (zer_vc hk n)
  have e : scaL k 0 (List.replicate n 0) = List.replicate n 0 := by
    unfold scaL
    rw [List.map_replicate, Int.mul_zero, Int.zero_emod]
  rw [e, Int.mul_zero, Int.zero_emod] at h
  exact h
theorem lin_lcV {k : Int} {n : Nat} {g : List Int → Int} {ss : List (List Int)} (hk : 0 < k) (G : LinG k n g) (hv : ∀ t, t < n → Vc k n (ss.getD t [])) (c : Nat → Int) : ∀ t, t ≤ n → g (lcV k n ss c t) = (sumN t fun t => c t * g (ss.getD t [])) % k
  | 0, _ => by
    show g (List.replicate n 0) = 0 % k
    rw [lin_zer hk G, Int.zero_emod]
  | t + 1, h => by
    show g (lesL k (-(c t)) (lcV k n ss c t) (ss.getD t [])) = (sumN t (fun t => c t * g (ss.getD t [])) + c t * g (ss.getD t [])) % k
    rw [G.ls _ _ _ (lcV_vc hk hv c t (by omega)) (hv t (by omega)), lin_lcV hk G hv c t (by omega), Int.neg_mul, Int.sub_neg, Int.add_emod, Int.emod_emod, ← Int.add_emod]
theorem vc_ext {k : Int} {n : Nat} {a b : List Int} (ha : Vc k n a) (hb : Vc k n b) (h : ∀ j, j < n → a.getD j 0 = b.getD j 0) : a = b := by
  refine List.ext_getElem? fun j => ?_
  rcases Nat.lt_or_ge j n with hj | hj
  · have := h j hj
    have l1 : j < a.length := by rw [ha.1]; exact hj
    have l2 : j < b.length := by rw [hb.1]; exact hj
    rw [List.getD_eq_getElem?_getD, List.getD_eq_getElem?_getD, List.getElem?_eq_getElem l1, List.getElem?_eq_getElem l2, Option.getD_some, Option.getD_some] at this
    rw [List.getElem?_eq_getElem l1, List.getElem?_eq_getElem l2, this]
  · rw [List.getElem?_eq_none (by rw [ha.1]; exact hj), List.getElem?_eq_none (by rw [hb.1]; exact hj)]
/-- a state is told by what shows of it at the places -/
theorem red_tell {k : Int} {n p : Nat} {g : Nat → List Int → Int} {z : List (List Int) × List Nat} (hk : 1 < k) (G : ∀ q, LinG k n (g q)) (R : Red k n g p z) (hn : z.2.length = n) {u : List Int} (hu : Vc k n u) {a : Nat} (ha : a < n) :
    (sumN n fun t => (z.1.getD t []).getD a 0 * g (z.2.getD t 0) u) % k = u.getD a 0 := by
  obtain ⟨c, hc⟩ := R.bs.sp fun j => u.getD j 0
  have hv := R.vc
  have hx : u = lcV k n z.1 c n := vc_ext hu (lcV_vc (by omega) hv c n (Nat.le_refl _)) fun j hj => by
    rw [lcV_at (by omega) hv c hj n (Nat.le_refl _), hc j hj]
    have hl : j < u.length := by rw [hu.1]; exact hj
    rw [List.getD_eq_getElem?_getD, List.getElem?_eq_getElem hl, Option.getD_some]
    have := hu.2 _ (List.getElem_mem hl)
    exact (Int.emod_eq_of_lt this.1 this.2).symm
  have hg : ∀ t, t < n → g (z.2.getD t 0) u = c t % k := fun t ht => by
    have ht2 : t < z.2.length := by omega
    have hd := R.dl t z.2[t] (List.getElem?_eq_getElem ht2)
    rw [List.getD_eq_getElem?_getD, List.getElem?_eq_getElem ht2, Option.getD_some, hx, lin_lcV (by omega) (G _) hv c n (Nat.le_refl _)]
    congr 1
    have := sumN_one t (c t) n
    rw [if_pos ht] at this
    rw [← this]
    refine sumN_congr fun i hi => ?_
    rw [hd i hi]
    by_cases e : i = t
    · rw [if_pos e, if_pos e, Int.mul_one, e]
    · rw [if_neg e, if_neg e, Int.mul_zero]
  have h1 : (sumN n fun t => (z.1.getD t []).getD a 0 * g (z.2.getD t 0) u) % k = (sumN n fun t => c t * enL z.1 t a) % k := sumN_mod fun t ht => by
    rw [hg t ht, Int.mul_emod, Int.emod_emod, ← Int.mul_emod, Int.mul_comm]
    rfl
  rw [h1, hc a ha]
  have hl : a < u.length := by rw [hu.1]; exact ha
  rw [List.getD_eq_getElem?_getD, List.getElem?_eq_getElem hl, Option.getD_some]
  have := hu.2 _ (List.getElem_mem hl)
  exact Int.emod_eq_of_lt this.1 this.2
theorem dot_set : ∀ (f sg : List Int) (p : Nat) (x : Int), f.length = sg.length → p < f.length → dotL (f.set p x) sg = dotL f sg + (x - f.getD p 0) * sg.getD p 0
  | [], _, _, _, _, h => by simp at h
  | y :: f, [], _, _, h, _ => by simp at h
  | y :: f, s :: sg, 0, x, _, _ => by
    simp only [dotL, List.set_cons_zero, List.zip_cons_cons, List.map_cons, List.sum_cons, List.getD_cons_zero]
    rw [Int.sub_mul]
    omega
  | y :: f, s :: sg, p + 1, x, h, hp => by
    have ih := dot_set f sg p x (by simpa using h) (by simpa using hp)
    simp only [dotL, List.set_cons_succ, List.zip_cons_cons, List.map_cons, List.sum_cons, List.getD_cons_succ] at ih ⊢
    rw [ih]
    omega
theorem dot_zer : ∀ (w : Nat) (sg : List Int), dotL (List.replicate w 0) sg = 0
  | 0, sg => by simp [dotL]
  | w + 1, [] => by simp [dotL]
  | w + 1, s :: sg => by
    have ih := dot_zer w sg
    simp only [dotL, List.replicate_succ, List.zip_cons_cons, List.map_cons, List.sum_cons, Int.zero_mul] at ih ⊢
    rw [ih]
    rfl
theorem fac_dot {k : Int} {n p : Nat} {g : Nat → List Int → Int} {z : List (List Int) × List Nat} (hk : 1 < k) (R : Red k n g p z) (hn : z.2.length = n) {a : Nat} {sg : List Int} (hsg : sg.length = p) : ∀ i, i ≤ n →
    dotL (facT z p a i) sg = (sumN i fun t => (z.1.getD t []).getD a 0 * sg.getD (z.2.getD t 0) 0) ∧ ∀ q, q < p → (∀ t, t < i → z.2.getD t 0 ≠ q) → (facT z p a i).getD q 0 = 0
  | 0, _ => by
    have e : facT z p a 0 = List.replicate p 0 := by unfold facT; rw [List.take_zero]; rfl
    rw [e]
    refine ⟨dot_zer p sg, fun q hq _ => ?_⟩
    rw [List.getD_eq_getElem?_getD, List.getElem?_replicate, if_pos hq]
    rfl
  | i + 1, h => by
    obtain ⟨i1, i2⟩ := fac_dot hk R hn (a := a) hsg i (by omega)
    have hl := R.len
    have hi1 : i < z.1.length := by omega
    have hi2 : i < z.2.length := by omega
    have hz : (z.1.zip z.2)[i]? = some (z.1[i], z.2[i]) := List.getElem?_zip_eq_some.mpr ⟨List.getElem?_eq_getElem hi1, List.getElem?_eq_getElem hi2⟩
    have d1 : z.1.getD i [] = z.1[i] := by rw [List.getD_eq_getElem?_getD, List.getElem?_eq_getElem hi1]; rfl
    have d2 : z.2.getD i 0 = z.2[i] := by rw [List.getD_eq_getElem?_getD, List.getElem?_eq_getElem hi2]; rfl
    have hlt := R.lt _ (List.getElem_mem hi2)
    have hne : ∀ t, t < i → z.2.getD t 0 ≠ z.2[i] := fun t ht e => by
      have ht2 : t < z.2.length := by omega
      rw [List.getD_eq_getElem?_getD, List.getElem?_eq_getElem ht2, Option.getD_some] at e
      have h1 := R.dl t _ (List.getElem?_eq_getElem ht2) i (by omega)
      have h2 := R.dl i _ (List.getElem?_eq_getElem hi2) i (by omega)
      rw [e, h2, if_pos rfl, if_neg (by omega)] at h1
      cases h1
    rw [facT_one hz]
    refine ⟨?_, fun q hq hq2 => ?_⟩
    · rw [dot_set _ _ _ _ (by rw [facT_len, hsg]) (by rw [facT_len]; exact hlt), i1, i2 _ hlt hne, Int.sub_zero]
      show _ = sumN i _ + (z.1.getD i []).getD a 0 * sg.getD (z.2.getD i 0) 0
      rw [d1, d2]
    · have := hq2 i (by omega)
      rw [d2] at this
      rw [List.getD_eq_getElem?_getD, List.getElem?_set_ne this, ← List.getD_eq_getElem?_getD]
      exact i2 q hq fun t ht => hq2 t (by omega)
theorem seen_getD {k : Int} {taps : List Int} {pat : List Nat} {s : List Int} {q : Nat} (hq : q < pat.length) : (seen k taps pat s).getD q 0 = shG k taps pat q s := by
  rw [List.getD_eq_getElem?_getD, seen_at hq]
  rfl
theorem jud_sees {k : Int} {taps : List Int} (M : Mach k taps) {pat : List Nat} (h : ¬ (redF k (shG k taps pat) (uniS taps.length) pat.length).2.length < taps.length) {u : List Int} (hu : Sta k taps u) :
    (List.range taps.length).map (fun a => dotL (facL (redF k (shG k taps pat) (uniS taps.length) pat.length) pat.length a) (seen k taps pat u) % k) = u := by
  have R := jud_red M pat
  have hk := M.two
  generalize redF k (shG k taps pat) (uniS taps.length) pat.length = z at *
  have hle := R.le
  have hn : z.2.length = taps.length := by omega
  refine List.ext_getElem? fun a => ?_
  rcases Nat.lt_or_ge a taps.length with ha | ha
  · have hl := R.len
    have h1 := (fac_dot (by omega) R hn (a := a) (seen_len k taps pat u) taps.length (Nat.le_refl _)).1
    have hz : (z.1.zip z.2).length = taps.length := by rw [List.length_zip, hl, hn, Nat.min_self]
    rw [← hz, facL_T, hz] at h1
    rw [List.getElem?_map, List.getElem?_range ha, Option.map_some, h1]
    have h2 := red_tell (by omega) (fun q => shG_lin M pat q) R hn hu.vc ha
    have h3 : (sumN taps.length fun t => (z.1.getD t []).getD a 0 * (seen k taps pat u).getD (z.2.getD t 0) 0) = sumN taps.length fun t => (z.1.getD t []).getD a 0 * shG k taps pat (z.2.getD t 0) u := sumN_congr fun t ht => by
      rw [seen_getD]
      have ht2 : t < z.2.length := by omega
      rw [List.getD_eq_getElem?_getD, List.getElem?_eq_getElem ht2]
      exact R.lt _ (List.getElem_mem ht2)
    rw [h3, h2, List.getD_eq_getElem?_getD, List.getElem?_eq_getElem (by rw [hu.len]; exact ha)]
    rfl
  · rw [List.getElem?_eq_none (by rw [List.length_map, List.length_range]; exact ha), List.getElem?_eq_none (by rw [hu.len]; exact ha)]
theorem jud_blind {k : Int} {taps : List Int} (M : Mach k taps) {pat : List Nat} {z : List (List Int) × List Nat} (R : Red k taps.length (shG k taps pat) pat.length z) (h : z.2.length < taps.length) :
    Sta k taps (z.1.getD z.2.length []) ∧ (∃ x ∈ z.1.getD z.2.length [], x ≠ 0) ∧ ∀ x ∈ seen k taps pat (z.1.getD z.2.length []), x = 0 := by
  have hk := M.two
  have hv := R.vc _ h
  refine ⟨hv.sta, Classical.byContradiction fun hne => ?_, fun x hx => ?_⟩
  · have h0 : ∀ j, enL z.1 z.2.length j = 0 := fun j => by
      unfold enL
      rcases Nat.lt_or_ge j (z.1.getD z.2.length []).length with hj | hj
      · rw [List.getD_eq_getElem?_getD (l := z.1.getD z.2.length []), List.getElem?_eq_getElem hj, Option.getD_some]
        exact Classical.byContradiction fun hx => hne ⟨_, List.getElem_mem hj, hx⟩
      · rw [List.getD_eq_getElem?_getD (l := z.1.getD z.2.length []), List.getElem?_eq_none hj]
        rfl
    have hz := R.bs.ind (fun t => if t = z.2.length then 1 else 0) (fun j _ => by
      have e : sumN taps.length (fun t => (if t = z.2.length then 1 else 0) * enL z.1 t j) = sumN taps.length fun _ => 0 := sumN_congr fun t _ => by
        by_cases e : t = z.2.length
        · rw [if_pos e, e, h0, Int.mul_zero]
        · rw [if_neg e, Int.zero_mul]
      rw [e, sumN_zero, Int.zero_emod]) z.2.length h
    rw [if_pos rfl, Int.emod_eq_of_lt (by decide) (by omega)] at hz
    cases hz
  · obtain ⟨q, hq, rfl⟩ := List.mem_iff_getElem.mp hx
    have hql : q < pat.length := by rw [seen_len] at hq; exact hq
    have h1 := seen_at (k := k) (taps := taps) (s := z.1.getD z.2.length []) hql
    rw [List.getElem?_eq_getElem hq] at h1
    rw [Option.some.inj h1]
    exact R.zr q hql _ (Nat.le_refl _) h
theorem facT_ok {k : Int} {n p : Nat} {g : Nat → List Int → Int} {z : List (List Int) × List Nat} (hk : 0 < k) (R : Red k n g p z) {a : Nat} (ha : a < n) : ∀ i, ∀ x ∈ facT z p a i, 0 ≤ x ∧ x < k
  | 0, x, hx => by
    unfold facT at hx
    rw [List.take_zero, List.foldl_nil] at hx
    rw [(List.mem_replicate.mp hx).2]
    omega
  | i + 1, x, hx => by
    have ih := facT_ok hk R ha i
    by_cases h : i < (z.1.zip z.2).length
    · have hz : (z.1.zip z.2)[i]? = some (z.1.zip z.2)[i] := List.getElem?_eq_getElem h
      rw [facT_one (r := ((z.1.zip z.2)[i]).1) (p := ((z.1.zip z.2)[i]).2) hz] at hx
      rcases List.mem_or_eq_of_mem_set hx with hx | hx
      · exact ih x hx
      · obtain ⟨h1, _⟩ := List.getElem?_zip_eq_some.mp (show (z.1.zip z.2)[i]? = some (((z.1.zip z.2)[i]).1, ((z.1.zip z.2)[i]).2) from hz)
        have hi := (List.getElem?_eq_some_iff.mp h1).1
        have hv := R.vc i (by rw [← R.len]; exact hi)
        rw [List.getD_eq_getElem?_getD, h1, Option.getD_some] at hv
        have hl : a < ((z.1.zip z.2)[i]).1.length := by rw [hv.1]; exact ha
        rw [hx, List.getD_eq_getElem?_getD, List.getElem?_eq_getElem hl, Option.getD_some]
        exact hv.2 _ (List.getElem_mem hl)
    · have e : facT z p a (i + 1) = facT z p a i := by
        unfold facT
        rw [List.take_of_length_le (by omega), List.take_of_length_le (by omega)]
      rw [e] at hx
      exact ih x hx
theorem facL_ok {k : Int} {n p : Nat} {g : Nat → List Int → Int} {z : List (List Int) × List Nat} (hk : 0 < k) (R : Red k n g p z) {a : Nat} (ha : a < n) : (facL z p a).length = p ∧ ∀ x ∈ facL z p a, 0 ≤ x ∧ x < k := by
  rw [← facL_T]
  exact ⟨facT_len _ _ _ _, facT_ok hk R ha _⟩
/-! ### for each state its cycle and where -/
theorem valE_put {κ β : Type} [DecidableEq κ] (kvs : List (κ × β)) (a k : κ) (v : β) : valE (putE kvs a v) k = if k = a then some v else valE kvs k := by
  cases h : valE kvs a with
  | none =>
    rw [valE_new v h, valE_snoc a k v kvs h]
  | some w =>
    have ha : (kvs.any fun kv => decide (kv.1 = a)) = true := by rw [valE_any, h]; rfl
    unfold putE
    rw [if_pos ha]
    have key : ∀ l : List (κ × β), (l.any fun kv => decide (kv.1 = a)) = true → valE (l.map fun kv => if kv.1 = a then (kv.1, v) else kv) k = if k = a then some v else valE l k := fun l => by
      induction l with
      | nil => intro z; cases z
      | cons kv l ih =>
        intro z
        unfold valE at ih ⊢
        rw [List.map_cons, List.find?_cons, List.find?_cons]
        by_cases e : kv.1 = a
        · rw [if_pos e]
          by_cases ek : k = a
          · subst ek
            simp [e]
          · have ek' : ¬ kv.1 = k := fun y => ek (y.symm.trans e)
            have ek2 : ¬ a = k := fun y => ek y.symm
            simp only [ek', decide_false, if_neg ek]
            by_cases za : (l.any fun kv => decide (kv.1 = a)) = true
            · rw [ih za, if_neg ek]
            · have hm : l.map (fun kv => if kv.1 = a then (kv.1, v) else kv) = l := by
                refine (List.map_congr_left fun x hx => ?_).trans (List.map_id l)
                have : ¬ x.1 = a := fun y => za (List.any_eq_true.mpr ⟨x, hx, decide_eq_true y⟩)
                rw [if_neg this]
                rfl
              rw [hm]
        · rw [if_neg e]
          by_cases ek : kv.1 = k
          · have : ¬ k = a := fun y => e (ek.trans y)
            simp [ek, this]
          · simp only [ek, decide_false]
            refine ih ?_
            rw [List.any_cons, decide_eq_false e, Bool.false_or] at z
            exact z
    exact key kvs ha
theorem putE_len {κ β : Type} [DecidableEq κ] (kvs : List (κ × β)) (a : κ) (v : β) : (putE kvs a v).length ≤ kvs.length + 1 := by
  unfold putE
  split
  · rw [List.length_map]
    omega
  · rw [List.length_append, List.length_singleton]
    exact Nat.le_refl _
def PlE (k : Int) (taps v : List Int) (d : PyData) : Prop := ∃ s0 p a, Sta k taps s0 ∧ Per k taps s0 p ∧ a < p ∧ itr k taps a s0 = v ∧ d = .tuple [.list ((List.range p).map fun j => tupI (itr k taps j s0)), .int (a : Nat)]
def Plc (k : Int) (taps : List Int) (kvs : List (List Key × PyData)) : Prop := ∀ v, Sta k taps v → ∃ d, valE kvs (kK v) = some d ∧ PlE k taps v d
theorem shows_sees : Shows (.str (PySem.Str.ofString "sees")) 30 0 := ⟨by decide +kernel, by decide +kernel, by decide +kernel, by decide +kernel⟩
theorem shows_blind : Shows (.str (PySem.Str.ofString "blind")) 30 0 := ⟨by decide +kernel, by decide +kernel, by decide +kernel, by decide +kernel⟩
theorem jud_shows {k : Int} {taps : List Int} (M : Mach k taps) {pat : List Nat} (hpl : pat.length ≤ 16) : ReprOk (judD k taps pat) := by
  have hmp := M.pos
  have R := jud_red M pat
  unfold judD
  dsimp only
  split
  · rename_i h
    have hs := (R.vc _ h).sta
    have : Shows (.tuple [.str (PySem.Str.ofString "blind"), tupI ((redF k (shG k taps pat) (uniS taps.length) pat.length).1.getD (redF k (shG k taps pat) (uniS taps.length) pat.length).2.length [])]) (2 * (138 + 2) + 3) (1 + 1) := Shows.tup (B := 138) (k := 1) (fun x hx => by
      simp only [List.mem_cons, List.not_mem_nil, or_false] at hx
      rcases hx with rfl | rfl
      · exact shows_blind.le (by decide) (by decide)
      · exact sta_shows M hs) (Nat.le_refl 2)
    exact this.repr (by decide) (by decide)
  · have hr : ∀ a, a < taps.length → Shows (tupI (facL (redF k (shG k taps pat) (uniS taps.length) pat.length) pat.length a)) 300 1 := fun a ha => by
      obtain ⟨h1, h2⟩ := facL_ok (by omega) R ha
      exact (shows_tupI (n := 16) (fun x hx => by have := h2 x hx; omega) (by rw [h1]; exact hpl)).le (by decide) (by decide)
    have hp : Shows (.tuple ((List.range taps.length).map fun a => tupI (facL (redF k (shG k taps pat) (uniS taps.length) pat.length) pat.length a))) (9 * (300 + 2) + 3) (1 + 1) := Shows.tup (B := 300) (k := 1) (fun x hx => by
      obtain ⟨a, ha, rfl⟩ := List.mem_map.mp hx
      exact hr a (List.mem_range.mp ha)) (by rw [List.length_map, List.length_range]; exact hmp.2.2.2)
    have : Shows (.tuple [.str (PySem.Str.ofString "sees"), .tuple ((List.range taps.length).map fun a => tupI (facL (redF k (shG k taps pat) (uniS taps.length) pat.length) pat.length a))]) (2 * (2721 + 2) + 3) (2 + 1) := Shows.tup (B := 2721) (k := 2) (fun x hx => by
      simp only [List.mem_cons, List.not_mem_nil, or_false] at hx
      rcases hx with rfl | rfl
      · exact shows_sees.le (by decide) (by decide)
      · exact hp.le (by decide) (by decide)) (Nat.le_refl 2)
    exact this.repr (by decide) (by decide)
theorem two_repr {k : Int} {taps : List Int} {pat : List Nat} (M : Mach k taps) (h : ∀ n ∈ pat, n ≤ 1000000) (hpl : pat.length ≤ 16) : ReprOk (.list [mach k taps, tupI (patI pat)]) := by
  have : Shows (.list [mach k taps, tupI (patI pat)]) (2 * (300 + 2) + 3) (2 + 1) := Shows.lst (B := 300) (k := 2) (fun x hx => by
    simp only [List.mem_cons, List.not_mem_nil, or_false] at hx
    rcases hx with rfl | rfl
    · exact mach_shows M
    · exact (pat_shows h hpl).le (by decide) (by decide)) (Nat.le_refl 2)
  exact this.repr (by decide) (by decide)
theorem maxI_goK : ∀ (xs : List Int) (x : Int), x ≤ xs.foldl (fun a b => if b > a then b else a) x ∧ (∀ y ∈ xs, y ≤ xs.foldl (fun a b => if b > a then b else a) x) ∧ (xs.foldl (fun a b => if b > a then b else a) x = x ∨ xs.foldl (fun a b => if b > a then b else a) x ∈ xs)
  | [], x => ⟨Int.le_refl _, (fun y hy => nomatch hy), .inl rfl⟩
  | z :: xs, x => by
    obtain ⟨h1, h2, h3⟩ := maxI_goK xs (if z > x then z else x)
    rw [List.foldl_cons]
    have hx : x ≤ if z > x then z else x := by split <;> omega
    have hz : z ≤ if z > x then z else x := by split <;> omega
    refine ⟨Int.le_trans hx h1, fun y hy => ?_, ?_⟩
    · rcases List.mem_cons.mp hy with rfl | hy
      · exact Int.le_trans hz h1
      · exact h2 y hy
    · rcases h3 with h3 | h3
      · rw [h3]
        split
        · exact .inr List.mem_cons_self
        · exact .inl rfl
      · exact .inr (List.mem_cons_of_mem _ h3)
theorem maxI_zero {x : Int} {xs : List Int} (h : ∀ y ∈ x :: xs, y = 0) : maxI (x :: xs) = 0 := by
  rcases (maxI_goK xs x).2.2 with e | e
  · exact e.trans (h x List.mem_cons_self)
  · exact h _ (List.mem_cons_of_mem _ e)
theorem maxI_pos {ns : List Int} (h : ∀ x ∈ ns, 0 ≤ x) {x : Int} (hx : x ∈ ns) (hx0 : x ≠ 0) : maxI ns ≠ 0 := by
  cases ns with
  | nil => cases hx
  | cons y ns =>
    obtain ⟨h1, h2, h3⟩ := maxI_goK ns y
    rcases List.mem_cons.mp hx with rfl | hx'
    · have := h x List.mem_cons_self
      intro z
      have : maxI (x :: ns) = ns.foldl (fun a b => if b > a then b else a) x := rfl
      omega
    · have := h x hx
      have h4 := h2 x hx'
      intro z
      have : maxI (y :: ns) = ns.foldl (fun a b => if b > a then b else a) y := rfl
      omega
/-! ### consecutive numbers see -/
theorem itr_succ' (k : Int) (taps : List Int) (n : Nat) (s : List Int) : itr k taps n (stepL k taps s) = itr k taps (n + 1) s := (itr_add k taps 1 s n).symm
theorem head_at {k : Int} {taps : List Int} (M : Mach k taps) : ∀ (j : Nat) {s : List Int}, Sta k taps s → j < taps.length → s.getD j 0 = hdI (itr k taps j s)
  | 0, s, h, _ => by
    cases s with
    | nil => exact absurd rfl (h.ne M)
    | cons x s => rfl
  | j + 1, s, h, hj => by
    have ih := head_at M j (h.step M) (by omega)
    rw [itr_succ'] at ih
    rw [← ih]
    unfold stepL
    have hl : j < s.tail.length := by rw [List.length_tail, h.len]; omega
    rw [List.getD_eq_getElem?_getD, List.getD_eq_getElem?_getD, List.getElem?_append_left hl, List.getElem?_tail]
theorem zero_itr {k : Int} {taps : List Int} (M : Mach k taps) : ∀ n, itr k taps n (List.replicate taps.length 0) = List.replicate taps.length 0
  | 0 => rfl
  | n + 1 => by
    show stepL k taps (itr k taps n _) = _
    rw [zero_itr M n]
    have hmp := M.pos
    have hd : dotL taps (List.replicate taps.length 0) = 0 := by
      have : ∀ (t : List Int) (m : Nat), dotL t (List.replicate m 0) = 0 := fun t => by
        induction t with
        | nil => intro m; simp [dotL]
        | cons x t ih =>
          intro m
          cases m with
          | zero => simp [dotL]
          | succ m =>
            have := ih m
            simp only [dotL, List.replicate_succ, List.zip_cons_cons, List.map_cons, List.sum_cons, Int.mul_zero] at this ⊢
            rw [this]
            rfl
      exact this _ _
    unfold stepL
    rw [hd, Int.zero_emod, List.tail_replicate]
    conv => rhs; rw [show taps.length = taps.length - 1 + 1 by omega, List.replicate_succ']
theorem row_sees {k : Int} {taps : List Int} (M : Mach k taps) (f : Nat) : ¬ (redF k (shG k taps ((List.range taps.length).map fun a => f + a)) (uniS taps.length) ((List.range taps.length).map fun a => f + a).length).2.length < taps.length := fun h => by
  obtain ⟨hs, ⟨x, hx, hx0⟩, hz⟩ := jud_blind M (jud_red M _) h
  generalize (redF k (shG k taps ((List.range taps.length).map fun a => f + a)) (uniS taps.length) ((List.range taps.length).map fun a => f + a).length).1.getD _ [] = s at *
  have h0 : itr k taps f s = List.replicate taps.length 0 := vc_ext (hs.itr M f).vc (zero_sta M).vc fun j hj => by
    rw [head_at M j (hs.itr M f) hj, ← itr_add, List.getD_eq_getElem?_getD, List.getElem?_replicate, if_pos hj]
    refine hz _ ?_
    unfold seen
    refine List.mem_map.mpr ⟨f + j, List.mem_map.mpr ⟨j, List.mem_range.mpr hj, rfl⟩, ?_⟩
    rw [Nat.add_comm]
  have : s = List.replicate taps.length 0 := itr_inj M hs (zero_sta M) f (h0.trans (zero_itr M f).symm)
  rw [this] at hx
  exact hx0 (List.mem_replicate.mp hx).2
theorem hdb_take {S S' : S3} {n : Nat} {b : Int} (h : HdB S n b) (e : S'.take S.length = S) (hn : n < S.length) : HdB S' n b := by
  obtain ⟨g, x, t, h1, h2⟩ := h
  refine ⟨g, x, t, ?_, h2⟩
  have h3 := congrArg (fun l : L3.S3 => l[n]?) e
  simp only [List.getElem?_take_of_lt hn] at h3
  rw [h3]
  exact h1
/-! ### k59: which states show alike -/
theorem nodup_len59 {α : Type} [DecidableEq α] : ∀ {l L : List α}, L.Nodup → (∀ x, x ∈ L ↔ x ∈ l) → L.length ≤ l.length ∧ (L.length = l.length ↔ l.Nodup)
  | [], L, _, h => by
    have : L = [] := List.eq_nil_iff_forall_not_mem.mpr fun x hx => by simpa using (h x).mp hx
    rw [this]
    simp
  | x :: l, L, nd, h => by
    by_cases hx : x ∈ l
    · obtain ⟨h1, _⟩ := nodup_len59 (l := l) nd fun y => by
        rw [h y]
        constructor
        · intro hy
          rcases List.mem_cons.mp hy with rfl | hy
          · exact hx
          · exact hy
        · exact List.mem_cons_of_mem _
      rw [List.length_cons, List.nodup_cons]
      refine ⟨by omega, ⟨fun e => by omega, fun e => absurd hx e.1⟩⟩
    · have hxL : x ∈ L := (h x).mpr List.mem_cons_self
      obtain ⟨h1, h2⟩ := nodup_len59 (l := l) (L := L.erase x) (nd.erase x) fun y => by
        rw [nd.mem_erase_iff, h y]
        constructor
        · rintro ⟨h1, h2⟩
          exact (List.mem_cons.mp h2).resolve_left h1
        · intro hy
          exact ⟨fun z => hx (z ▸ hy), List.mem_cons_of_mem _ hy⟩
      have hl := List.length_erase_of_mem hxL
      have hpos : 0 < L.length := List.length_pos_iff.mpr (List.ne_nil_of_mem hxL)
      rw [List.length_cons, List.nodup_cons]
      refine ⟨by omega, ?_⟩
      rw [← h2]
      constructor
      · intro e
        exact ⟨hx, by omega⟩
      · rintro ⟨_, e⟩
        omega
theorem putE_keys {κ β : Type} [DecidableEq κ] (kvs : List (κ × β)) (a : κ) (v : β) : (putE kvs a v).map (·.1) = if (valE kvs a).isSome = true then kvs.map (·.1) else kvs.map (·.1) ++ [a] := by
  cases h : valE kvs a with
  | none =>
    rw [valE_new v h, List.map_append, if_neg (by simp)]
    rfl
  | some w =>
    have ha : (kvs.any fun kv => decide (kv.1 = a)) = true := by rw [valE_any, h]; rfl
    unfold putE
    rw [if_pos ha, if_pos (by simp), List.map_map]
    refine List.map_congr_left fun x _ => ?_
    show (if x.1 = a then (x.1, v) else x).1 = x.1
    split <;> rfl
def KyS (k : Int) (taps : List Int) (kvs : List (List Key × PyData)) : Prop := ∃ L : List (List Int), kvs.map (·.1) = L.map kK ∧ L.Nodup ∧ ∀ v ∈ L, Sta k taps v
theorem KyS.nil (k : Int) (taps : List Int) : KyS k taps [] := ⟨[], rfl, List.nodup_nil, fun v hv => nomatch hv⟩
theorem KyS.put {k : Int} {taps : List Int} {kvs : List (List Key × PyData)} (h : KyS k taps kvs) {v : List Int} (hv : Sta k taps v) (d : PyData) : KyS k taps (putE kvs (kK v) d) := by
  obtain ⟨L, h1, h2, h3⟩ := h
  unfold KyS
  rw [putE_keys]
  by_cases hs : (valE kvs (kK v)).isSome = true
  · rw [if_pos hs]
    exact ⟨L, h1, h2, h3⟩
  · rw [if_neg hs]
    refine ⟨L ++ [v], by rw [h1, List.map_append]; rfl, ?_, fun u hu => ?_⟩
    · rw [List.nodup_append]
      refine ⟨h2, by simp, fun a ha b hb e => ?_⟩
      rw [List.mem_singleton.mp hb] at e
      subst e
      have hm : kK a ∈ kvs.map (·.1) := by rw [h1]; exact List.mem_map_of_mem ha
      obtain ⟨p, hp, ep⟩ := List.mem_map.mp hm
      rw [← valE_any] at hs
      exact hs (List.any_eq_true.mpr ⟨p, hp, decide_eq_true ep⟩)
    · rcases List.mem_append.mp hu with hu | hu
      · exact h3 u hu
      · rw [List.mem_singleton.mp hu]
        exact hv
/-- all states, each once, in the dict's order -/
theorem KyS.all {k : Int} {taps : List Int} {kvs : List (List Key × PyData)} (h : KyS k taps kvs) (hp : Plc k taps kvs) : ∃ L : List (List Int), kvs.map (·.1) = L.map kK ∧ L.Nodup ∧ ∀ v, v ∈ L ↔ Sta k taps v := by
  obtain ⟨L, h1, h2, h3⟩ := h
  refine ⟨L, h1, h2, fun v => ⟨h3 v, fun hv => ?_⟩⟩
  obtain ⟨d, hd, _⟩ := hp v hv
  have ha : (kvs.any fun kv => decide (kv.1 = kK v)) = true := by rw [valE_any, hd]; rfl
  obtain ⟨p, hp1, hp2⟩ := List.any_eq_true.mp ha
  have hm : kK v ∈ L.map kK := by
    rw [← h1, ← of_decide_eq_true hp2]
    exact List.mem_map_of_mem hp1
  obtain ⟨u, hu, e⟩ := List.mem_map.mp hm
  rw [← kK_inj e]
  exact hu
def Unl (k : Int) (taps : List Int) (pat : List Nat) : Prop := ∀ u v, Sta k taps u → Sta k taps v → seen k taps pat u = seen k taps pat v → u = v
theorem unl_sees {k : Int} {taps : List Int} (M : Mach k taps) {pat : List Nat} (h : ¬ (redF k (shG k taps pat) (uniS taps.length) pat.length).2.length < taps.length) : Unl k taps pat := fun u v hu hv e => by
  rw [← jud_sees M h hu, e, jud_sees M h hv]
theorem zer_sta {k : Int} {taps : List Int} (M : Mach k taps) : Sta k taps (List.replicate taps.length 0) := (zer_vc (by have := M.two; omega) taps.length).sta
theorem zer_seen {k : Int} {taps : List Int} (M : Mach k taps) (pat : List Nat) : ∀ x ∈ seen k taps pat (List.replicate taps.length 0), x = 0 := fun x hx => by
  obtain ⟨q, hq, rfl⟩ := List.mem_iff_getElem.mp hx
  have hql : q < pat.length := by rw [seen_len] at hq; exact hq
  have h1 := seen_at (k := k) (taps := taps) (s := List.replicate taps.length 0) hql
  rw [List.getElem?_eq_getElem hq] at h1
  rw [Option.some.inj h1]
  exact lin_zer (by have := M.two; omega) (shG_lin M pat q)
theorem seen_zer {k : Int} {taps : List Int} (M : Mach k taps) {pat : List Nat} {u v : List Int} (hu : ∀ x ∈ seen k taps pat u, x = 0) (hv : ∀ x ∈ seen k taps pat v, x = 0) : seen k taps pat u = seen k taps pat v := by
  rw [List.eq_replicate_iff.mpr ⟨seen_len k taps pat u, hu⟩, List.eq_replicate_iff.mpr ⟨seen_len k taps pat v, hv⟩]
theorem unl_zero {k : Int} {taps : List Int} (M : Mach k taps) {pat : List Nat} (h : Unl k taps pat) {u : List Int} (hu : Sta k taps u) (hz : ∀ x ∈ seen k taps pat u, x = 0) : ∀ x ∈ u, x = 0 := fun x hx => by
  have e := h u _ hu (zer_sta M) (seen_zer M hz (zer_seen M pat))
  rw [e] at hx
  exact (List.mem_replicate.mp hx).2
theorem not_unl {k : Int} {taps : List Int} (M : Mach k taps) {pat : List Nat} (h : ¬ Unl k taps pat) : ∃ u, Sta k taps u ∧ (∃ x ∈ u, x ≠ 0) ∧ ∀ x ∈ seen k taps pat u, x = 0 := by
  by_cases hlt : (redF k (shG k taps pat) (uniS taps.length) pat.length).2.length < taps.length
  · exact ⟨_, jud_blind M (jud_red M pat) hlt⟩
  · exact absurd (unl_sees M hlt) h
theorem unl_iff {k : Int} {taps : List Int} (M : Mach k taps) (pat : List Nat) : Unl k taps pat ↔ ¬ (redF k (shG k taps pat) (uniS taps.length) pat.length).2.length < taps.length := by
  refine ⟨fun h hlt => ?_, unl_sees M⟩
  obtain ⟨h1, ⟨x, hx, hx0⟩, h3⟩ := jud_blind M (jud_red M pat) hlt
  exact hx0 (unl_zero M h h1 h3 x hx)
theorem seen_sca {k : Int} {taps : List Int} (M : Mach k taps) (pat : List Nat) (a : Int) {s : List Int} (hs : Vc k taps.length s) : seen k taps pat (scaL k a s) = scaL k a (seen k taps pat s) := by
  refine List.ext_getElem? fun q => ?_
  rcases Nat.lt_or_ge q pat.length with hq | hq
  · unfold scaL
    rw [List.getElem?_map, seen_at hq, seen_at hq]
    exact congrArg some ((shG_lin M pat q).sc a s hs)
  · rw [List.getElem?_eq_none (by rw [seen_len]; exact hq), List.getElem?_eq_none (by unfold scaL; rw [List.length_map, seen_len]; exact hq)]
theorem seen_les {k : Int} {taps : List Int} (M : Mach k taps) (pat : List Nat) (m : Int) {s o : List Int} (hs : Vc k taps.length s) (ho : Vc k taps.length o) : seen k taps pat (lesL k m s o) = lesL k m (seen k taps pat s) (seen k taps pat o) := by
  refine List.ext_getElem? fun q => ?_
  have ll : (lesL k m (seen k taps pat s) (seen k taps pat o)).length = pat.length := by unfold lesL; rw [List.length_map, List.length_zip, seen_len, seen_len, Nat.min_self]
  rcases Nat.lt_or_ge q pat.length with hq | hq
  · unfold lesL
    have hz : ((seen k taps pat s).zip (seen k taps pat o))[q]? = some (shG k taps pat q s, shG k taps pat q o) := List.getElem?_zip_eq_some.mpr ⟨seen_at hq, seen_at hq⟩
    rw [List.getElem?_map, seen_at hq, hz]
    exact congrArg some ((shG_lin M pat q).ls m s o hs ho)
  · rw [List.getElem?_eq_none (by rw [seen_len]; exact hq), List.getElem?_eq_none (by rw [ll]; exact hq)]
theorem dot_lin {k : Int} {taps : List Int} (M : Mach k taps) (pat : List Nat) (f : List Int) : LinG k taps.length fun u => dotL f (seen k taps pat u) % k := by
  have hk := M.two
  refine ⟨fun s hs => ⟨Int.emod_nonneg _ (by omega), Int.emod_lt_of_pos _ (by omega)⟩, fun a s hs => ?_, fun m s o hs ho => ?_⟩
  · show dotL f (seen k taps pat (scaL k a s)) % k = _
    have e : ∀ x a : Int, x % k * a % k = x * a % k := fun x a => by rw [Int.mul_emod, Int.emod_emod, ← Int.mul_emod]
    rw [seen_sca M pat a hs, dot_sca, e]
  · show dotL f (seen k taps pat (lesL k m s o)) % k = _
    rw [seen_les M pat m hs ho, dot_les _ _ _ (by rw [seen_len, seen_len])]
    have e : ∀ x m y : Int, (x % k - m * (y % k)) % k = (x - m * y) % k := fun x m y => by rw [Int.sub_emod, Int.emod_emod, Int.mul_emod m (y % k), Int.emod_emod, ← Int.mul_emod, ← Int.sub_emod]
    rw [e]
theorem uni_lc {k : Int} {taps : List Int} (M : Mach k taps) {u : List Int} (hu : Vc k taps.length u) : lcV k taps.length (uniS taps.length) (fun t => u.getD t 0) taps.length = u := by
  have hk := M.two
  refine vc_ext (lcV_vc (by omega) (uni_vc M) _ _ (Nat.le_refl _)) hu fun j hj => ?_
  rw [lcV_at (by omega) (uni_vc M) _ hj _ (Nat.le_refl _)]
  have e : (sumN taps.length fun t => u.getD t 0 * enL (uniS taps.length) t j) = sumN taps.length fun t => if t = j then u.getD j 0 else 0 := sumN_congr fun t ht => by
    have e1 : enL (uniS taps.length) t j = if t = j then 1 else 0 := by
      unfold enL
      rw [uniS_get ht, List.getD_eq_getElem?_getD, unitL_get hj]
      show (if j = t then (1 : Int) else 0) = _
      by_cases h : j = t
      · rw [if_pos h, if_pos h.symm]
      · rw [if_neg h, if_neg fun z => h z.symm]
    rw [e1]
    by_cases h : t = j
    · rw [if_pos h, if_pos h, Int.mul_one, h]
    · rw [if_neg h, if_neg h, Int.mul_zero]
  rw [e, sumN_one, if_pos hj]
  have hl : j < u.length := by rw [hu.1]; exact hj
  rw [List.getD_eq_getElem?_getD, List.getElem?_eq_getElem hl, Option.getD_some]
  have := hu.2 _ (List.getElem_mem hl)
  exact Int.emod_eq_of_lt this.1 this.2
/-- a paper that tells the units tells: what shows noughts alone is noughts alone -/
theorem pap_zero {k : Int} {taps : List Int} (M : Mach k taps) {pat : List Nat} {fs : List (List Int)} (hl : fs.length = taps.length) (hu : ∀ t, t < taps.length → (fs.map fun f => dotL f (seen k taps pat (unitL taps.length t)) % k) = unitL taps.length t)
    {u : List Int} (h : Sta k taps u) (hz : ∀ x ∈ seen k taps pat u, x = 0) : ∀ x ∈ u, x = 0 := fun x hx => by
  have hk := M.two
  obtain ⟨a, ha, rfl⟩ := List.mem_iff_getElem.mp hx
  have hau : a < taps.length := by rw [← h.len]; exact ha
  have haf : a < fs.length := by rw [hl]; exact hau
  have h1 := lin_lcV (by omega) (dot_lin M pat fs[a]) (uni_vc M) (fun t => u.getD t 0) _ (Nat.le_refl _)
  rw [uni_lc M h.vc] at h1
  have h2 : (sumN taps.length fun t => u.getD t 0 * (dotL fs[a] (seen k taps pat ((uniS taps.length).getD t [])) % k)) = sumN taps.length fun t => if t = a then u.getD a 0 else 0 := sumN_congr fun t ht => by
    have h3 := congrArg (fun l : List Int => l.getD a 0) (hu t ht)
    simp only [List.getD_eq_getElem?_getD] at h3
    rw [List.getElem?_map, List.getElem?_eq_getElem haf, unitL_get hau] at h3
    rw [uniS_get ht]
    have h4 : dotL fs[a] (seen k taps pat (unitL taps.length t)) % k = if a = t then 1 else 0 := h3
    rw [h4]
    by_cases e : t = a
    · rw [if_pos e, if_pos e.symm, Int.mul_one, e]
    · rw [if_neg e, if_neg fun z => e z.symm, Int.mul_zero]
  have h5 : dotL fs[a] (seen k taps pat u) = 0 := by
    rw [List.eq_replicate_iff.mpr ⟨seen_len k taps pat u, hz⟩]
    exact dot_zerR _ _
  rw [h2, sumN_one, if_pos hau, h5, Int.zero_emod] at h1
  have h6 := h.vc.2 _ (List.getElem_mem ha)
  rw [List.getD_eq_getElem?_getD, List.getElem?_eq_getElem ha, Option.getD_some, Int.emod_eq_of_lt h6.1 h6.2] at h1
  exact h1.symm
where
  dot_zerR : ∀ (f : List Int) (w : Nat), dotL f (List.replicate w 0) = 0
  | [], w => rfl
  | x :: f, 0 => rfl
  | x :: f, w + 1 => by
    have := dot_zerR f w
    unfold dotL at this ⊢
    rw [List.replicate_succ, List.zip_cons_cons, List.map_cons, List.sum_cons, this]
    simp
theorem seen_cnt {k : Int} {taps : List Int} {pat : List Nat} {L : List (List Int)} (nd : L.Nodup) (hL : ∀ v, v ∈ L ↔ Sta k taps v) : (L.map (seen k taps pat)).Nodup ↔ Unl k taps pat := by
  constructor
  · intro h u v hu hv e
    exact inj59 h u ((hL u).mpr hu) v ((hL v).mpr hv) e
  · intro h
    exact nd_map59 nd fun a ha b hb e => h a b ((hL a).mp ha) ((hL b).mp hb) e
where
  inj59 {α β : Type} {f : α → β} : ∀ {l : List α}, (l.map f).Nodup → ∀ a ∈ l, ∀ b ∈ l, f a = f b → a = b
  | x :: l, h, a, ha, b, hb, e => by
    rw [List.map_cons, List.nodup_cons] at h
    rcases List.mem_cons.mp ha with e1 | ha2
    · rcases List.mem_cons.mp hb with e2 | hb2
      · rw [e1, e2]
      · exact absurd (List.mem_map.mpr ⟨b, hb2, by rw [← e, e1]⟩) h.1
    · rcases List.mem_cons.mp hb with e2 | hb2
      · exact absurd (List.mem_map.mpr ⟨a, ha2, by rw [e, e2]⟩) h.1
      · exact inj59 h.2 a ha2 b hb2 e
  nd_map59 {α β : Type} {f : α → β} : ∀ {l : List α}, l.Nodup → (∀ a ∈ l, ∀ b ∈ l, f a = f b → a = b) → (l.map f).Nodup
  | [], _, _ => List.nodup_nil
  | x :: l, nd, h => by
    obtain ⟨h1, h2⟩ := List.nodup_cons.mp nd
    rw [List.map_cons, List.nodup_cons]
    refine ⟨fun hm => ?_, nd_map59 h2 fun a ha b hb => h a (List.mem_cons_of_mem _ ha) b (List.mem_cons_of_mem _ hb)⟩
    obtain ⟨y, hy, e⟩ := List.mem_map.mp hm
    have := h y (List.mem_cons_of_mem _ hy) x List.mem_cons_self e
    exact h1 (this ▸ hy)
theorem shaped_tints59 (ws : List Int) : SeqAt.shaped (tupI ws) = true := by
  have h1 : PyData.canLayAll0 (ws.map PyData.int) = true := by
    induction ws with
    | nil => unfold PyData.canLayAll0; rfl
    | cons w ws ih =>
      rw [List.map_cons]
      unfold PyData.canLayAll0
      rw [ih]
      rfl
  have h2 : PyData.depthAll (ws.map PyData.int) ≤ 0 := by
    clear h1
    induction ws with
    | nil => unfold PyData.depthAll; exact Nat.le_refl _
    | cons w ws ih =>
      rw [List.map_cons]
      unfold PyData.depthAll
      exact Nat.max_le.mpr ⟨Nat.le_refl _, ih⟩
  unfold SeqAt.shaped tupI PyData.canLay0 PyData.depth
  rw [h1]
  simp
  omega
theorem keyPd_kK (v : List Int) : keyPd (kK v) = tupI v := by
  unfold keyPd kK tupI
  rw [List.map_map]
  rfl
theorem keys_tup {kvs : List (List Key × PyData)} {L : List (List Int)} (h : kvs.map (·.1) = L.map kK) : (kvs.map fun p => keyPd p.1) = L.map tupI := by
  have e : (kvs.map fun p => keyPd p.1) = (kvs.map (·.1)).map keyPd := by rw [List.map_map]; rfl
  rw [e, h, List.map_map]
  exact List.map_congr_left fun v _ => keyPd_kK v
theorem keys_len {kvs : List (List Key × PyData)} {L : List (List Int)} (h : kvs.map (·.1) = L.map kK) : kvs.length = L.length := by
  have := congrArg List.length h
  rw [List.length_map, List.length_map] at this
  exact this
theorem keys_few {k : Int} {taps : List Int} (M : Mach k taps) {kvs : List (List Key × PyData)} {L : List (List Int)} (h : kvs.map (·.1) = L.map kK) (hL : ∀ v, v ∈ L ↔ Sta k taps v) : ∀ p ∈ kvs, p.1.length ≤ 16777216 := fun p hp => by
  have hm : p.1 ∈ L.map kK := by
    rw [← h]
    exact List.mem_map_of_mem hp
  obtain ⟨v, hv, e⟩ := List.mem_map.mp hm
  have h1 := ((hL v).mp hv).len
  have h2 := M.pos
  rw [← e]
  unfold kK
  rw [List.length_map]
  omega
theorem rep3_59 (x : PyData) (c : Nat) : rep3 [x] (c : Int) = List.replicate c x := by
  unfold rep3
  rw [Int.toNat_natCast]
  induction c with
  | zero => rfl
  | succ c ih => rw [List.replicate_succ, List.replicate_succ, List.flatten_cons, ih]; rfl
theorem maxI_ge59 {ns : List Int} {y : Int} (h : y ∈ ns) : y ≤ maxI ns := by
  cases ns with
  | nil => cases h
  | cons x xs =>
    obtain ⟨h1, h2, _⟩ := maxI_go xs x
    rcases List.mem_cons.mp h with rfl | h
    · exact h1
    · exact h2 y h
theorem maxI_mem59 {ns : List Int} (h : ns ≠ []) : maxI ns ∈ ns := by
  cases ns with
  | nil => exact absurd rfl h
  | cons x xs =>
    obtain ⟨h1, h2, h3⟩ := maxI_go xs x
    rcases h3 with h3 | h3
    · exact List.mem_cons.mpr (.inl h3)
    · exact List.mem_cons_of_mem _ h3
theorem max_any {ns : List Int} (hn : ns ≠ []) (h : ∀ x ∈ ns, 0 ≤ x) : 0 < maxI ns ↔ (ns.any fun n => decide (n ≠ 0)) = true := by
  rw [List.any_eq_true]
  constructor
  · intro h1
    exact ⟨_, maxI_mem59 hn, decide_eq_true (by omega)⟩
  · rintro ⟨x, hx, h2⟩
    have h3 := of_decide_eq_true h2
    have h4 := h x hx
    have h5 := maxI_ge59 hx
    omega
theorem max_nil {ns : List Int} (hn : ns ≠ []) (h : ∀ x ∈ ns, 0 ≤ x) : (!(ns.any fun n => decide (n ≠ 0))) = (maxI ns == 0) := by
  have h1 := max_any hn h
  have h2 := h _ (maxI_mem59 hn)
  cases e : ns.any fun n => decide (n ≠ 0) with
  | true =>
    have := h1.mpr e
    exact (beq_eq_false_iff_ne.mpr (by omega)).symm
  | false =>
    have : ¬ 0 < maxI ns := fun z => by
      rw [h1.mp z] at e
      cases e
    exact (beq_iff_eq.mpr (by omega)).symm
section
variable {P : Program} {w : World} {K : PySem.W.Frag} {mg : Str → Option Value} {base : Heap}
def sp_is_number : Sp3 := fun ds S Q => ∃ (i k : Int), ds = [.p (.int i), .p (.int k)] ∧ 0 ≤ i ∧ i < k ∧ Q (.p (.bool true)) S
def t_is_number : TS3 := tRet3 (tAndV3 (tIsi3 "int" (tVar3 0)) (tAndV3 (tNotV3 (tIsi3 "bool" (tVar3 0))) (tChain3 rLe3 rLtD3 (tC3 (.int 0)) (tVar3 0) (tVar3 1))))
theorem dv_is_number (T : Txt K mg base) {f : Addr} {cdv : Value} {A : Around} {outer : List Env} {s : Shared} {H : Hp} {E : XK} (hr : Room 0 (A.deeper (envOfC "is_number" (defScope s_is_number) s.heap.objs.size f cdv))) : QSs (cxOf CX0 P w K mg base nm_is_number "is_number" (defScope s_is_number) f cdv A outer s H E).nox (defBody s_is_number) t_is_number :=
  qss_one (qs_ret (qe_and (qe_isi (T := "int") (by decide +kernel) (by rfl) (T.b_isinstance) (by rfl) (T.b_int) (by decide +kernel) (by decide) (by decide) (qv 0)) (qe_and (qe_not (qe_isi (T := "bool") (by decide +kernel) (by rfl) (T.b_isinstance) (by rfl) (T.b_bool) (by decide +kernel) (by decide) (by decide) (qv 0))) (qe_one (qe_chain oq_le (oq_ltD hr.units) (qe_int) (qv 0) (qv 1))))))
theorem rd_is_number : ∀ ds S Q, sp_is_number ds S Q → t_is_number { nx := fun _ S' => Fin3 S Q (.p .none) S', rt := Fin3 S Q } (env0 2 ds) S := by
  rintro _ S Q ⟨i, k, rfl, h0, h1, q⟩
  unfold t_is_number
  walk_at "rd"
  rw [if_pos h0, decide_eq_true h1]
  exact fin_p q
theorem ok_is_number (T : Txt K mg base) : Ok3 P w K mg base 1 "is_number" sp_is_number := by
  obtain ⟨f, fd, F, hm, hb⟩ := T.f_is_number
  exact Ok3.mk' F hm hb sc_is_number (fun ds S Q h => by simp only [sp_is_number] at h; first | (obtain ⟨rfl, _⟩ := h; rfl) | (obtain ⟨_, rfl, _⟩ := h; rfl) | (obtain ⟨_, _, rfl, _⟩ := h; rfl) | (obtain ⟨_, _, _, rfl, _⟩ := h; rfl) | (obtain ⟨_, _, _, _, rfl, _⟩ := h; rfl) | (obtain ⟨_, _, _, _, _, rfl, _⟩ := h; rfl) | (obtain ⟨_, _, _, _, _, _, rfl, _⟩ := h; rfl) | (obtain ⟨_, _, _, _, _, _, _, rfl, _⟩ := h; rfl) | (obtain ⟨_, _, _, _, _, _, _, _, rfl, _⟩ := h; rfl) | (obtain ⟨_, _, _, _, _, _, _, _, _, rfl, _⟩ := h; rfl) | (obtain ⟨_, _, _, _, _, _, _, _, _, _, rfl, _⟩ := h; rfl) | exact h.2) (fun cdv A outer s H E hr => dv_is_number T hr) rd_is_number
def sp_are_numbers : Sp3 := fun ds S Q => ∃ (k : Int) (ns : List Int), ds = [.p (tupI ns), .p (.int k)] ∧ (∀ x ∈ ns, 0 ≤ x ∧ x < k) ∧ Q (.p (.bool true)) S
def t_are_numbers : TS3 := tRet3 (tAndV3 (tIsi3 "tuple" (tVar3 0)) (tCB3 (rAll3) (tCons3 (tPure (tLc3 (tSeqI3 (tVar3 0)) (.nm 2) (tYes3) (tCB3 sp_is_number (tCons3 (tVar3 2) (tCons3 (tVar3 1) (tNil3)))) [2])) (tNil3))))
theorem dv_are_numbers (T : Txt K mg base) {f : Addr} {cdv : Value} {A : Around} {outer : List Env} {s : Shared} {H : Hp} {E : XK} (hr : Room 1 (A.deeper (envOfC "are_numbers" (defScope s_are_numbers) s.heap.objs.size f cdv))) : QSs (cxOf CX0 P w K mg base nm_are_numbers "are_numbers" (defScope s_are_numbers) f cdv A outer s H E).nox (defBody s_are_numbers) t_are_numbers :=
  qss_one (qs_ret (qe_and (qe_isi (T := "tuple") (by decide +kernel) (by rfl) (T.b_isinstance) (by rfl) (T.b_tuple) (by decide +kernel) (by decide) (by decide) (qv 0)) (qe_one (qe_cb (cq_all rfl) (by rfl) T.b_all (by decide +kernel) (qa_cons (qn_pure (qn_lc (own := [("one", 2)]) rfl sc_are_numbers.nd (qi_seq (qv 0)) (blkOk_by (own := [("one", 2)]) (N := nm_are_numbers) (sc := defScope s_are_numbers) (by decide +kernel)) (fun _ _ _ _ _ => qb_nm (i := 2) sc_are_numbers.nd rfl (by first | exact .inl rfl | exact .inr rfl)) (fun _ _ _ _ _ => qts_nil) (fun _ _ _ _ _ => qe_call (ok_is_number T) (hr.mono (by decide)) (by rfl) (qa_cons (qv 2) (qa_cons (qv 1) (qa_nil)))))) (qa_nil))))))
theorem rd_are_numbers : ∀ ds S Q, sp_are_numbers ds S Q → t_are_numbers { nx := fun _ S' => Fin3 S Q (.p .none) S', rt := Fin3 S Q } (env0 3 ds) S := by
  rintro _ S Q ⟨k, ns, rfl, hn, q⟩
  unfold t_are_numbers sp_is_number tupI
  walk_at "rd"
  refine ⟨fun i acc s => s = S ∧ acc = (List.replicate i true).map PyData.bool, ⟨rfl, rfl⟩, fun _ _ _ _ => trivial, ?_, ?_⟩
  · rintro i d acc s hd ⟨rfl, rfl⟩
    rw [List.getElem?_map] at hd
    obtain ⟨x, hx, rfl⟩ := Option.map_eq_some_iff.mp hd
    have := hn x (List.mem_of_getElem? hx)
    exact ⟨x, k, rfl, this.1, this.2, rfl, by rw [List.replicate_succ', List.map_append]; rfl⟩
  · rintro acc s ⟨rfl, rfl⟩
    rw [allP_bls]
    dsimp only
    rw [show (List.replicate ns.length true).all id = true from List.all_eq_true.mpr fun b hb => (List.mem_replicate.mp hb).2]
    exact fin_p q
theorem ok_are_numbers (T : Txt K mg base) : Ok3 P w K mg base 2 "are_numbers" sp_are_numbers := by
  obtain ⟨f, fd, F, hm, hb⟩ := T.f_are_numbers
  exact Ok3.mk' F hm hb sc_are_numbers (fun ds S Q h => by simp only [sp_are_numbers] at h; first | (obtain ⟨rfl, _⟩ := h; rfl) | (obtain ⟨_, rfl, _⟩ := h; rfl) | (obtain ⟨_, _, rfl, _⟩ := h; rfl) | (obtain ⟨_, _, _, rfl, _⟩ := h; rfl) | (obtain ⟨_, _, _, _, rfl, _⟩ := h; rfl) | (obtain ⟨_, _, _, _, _, rfl, _⟩ := h; rfl) | (obtain ⟨_, _, _, _, _, _, rfl, _⟩ := h; rfl) | (obtain ⟨_, _, _, _, _, _, _, rfl, _⟩ := h; rfl) | (obtain ⟨_, _, _, _, _, _, _, _, rfl, _⟩ := h; rfl) | (obtain ⟨_, _, _, _, _, _, _, _, _, rfl, _⟩ := h; rfl) | (obtain ⟨_, _, _, _, _, _, _, _, _, _, rfl, _⟩ := h; rfl) | exact h.2) (fun cdv A outer s H E hr => dv_are_numbers T hr) rd_are_numbers
def sp_one_step : Sp3 := fun ds S Q => ∃ (k : Int) (taps st : List Int), ds = [.p (mach k taps), .p (tupI st)] ∧ Mach k taps ∧ Sta k taps st ∧ Q (.p (tupI (stepL k taps st))) S
def t_one_step : TS3 := tSeq3 (tAsgT3 (tVar3 0) (.tup (.cons (.nm 2) (.cons (.nm 3) (.nil))))) (tRet3 (tOp3 rAdd3 (tSl3 (tVar3 1) (tPart3 (tC3 (.int 1))) (tNoPart3)) (tTup3 (tCons3 (tOp3 rMod3 (tCB3 (rSumA3) (tCons3 (tPure (tLc3 (tZipI3 (tCons3 (tVar3 3) (tCons3 (tVar3 1) (tNil3)))) (.tup (.cons (.nm 4) (.cons (.nm 5) (.nil)))) (tYes3) (tOp3 rMulT3 (tVar3 4) (tVar3 5)) [4, 5])) (tNil3))) (tVar3 2)) (tNil3)))))
theorem dv_one_step (T : Txt K mg base) {f : Addr} {cdv : Value} {A : Around} {outer : List Env} {s : Shared} {H : Hp} {E : XK} (hr : Room 0 (A.deeper (envOfC "one_step" (defScope s_one_step) s.heap.objs.size f cdv))) : QSs (cxOf CX0 P w K mg base nm_one_step "one_step" (defScope s_one_step) f cdv A outer s H E).nox (defBody s_one_step) t_one_step :=
  qss_cons (qs_asgT (qv 0) (qb_tup rfl (qbs_cons (qb_nm (i := 2) sc_one_step.nd rfl (by first | exact .inl rfl | exact .inr rfl)) (qbs_cons (qb_nm (i := 3) sc_one_step.nd rfl (by first | exact .inl rfl | exact .inr rfl)) (qbs_nil))))) (qss_one (qs_ret (qe_op oq_add (qe_slice (qv 1) (qo_some (qe_int)) (qo_none)) (qe_tup (qa_cons (qe_op oq_mod (qe_cb (cq_sumA rfl) (by rfl) T.b_sum (by decide +kernel) (qa_cons (qn_pure (qn_lc (own := [("tap", 4), ("one", 5)]) rfl sc_one_step.nd (qi_zip rfl (by rfl) T.b_zip (qa_cons (qv 3) (qa_cons (qv 1) (qa_nil)))) (blkOk_by (own := [("tap", 4), ("one", 5)]) (N := nm_one_step) (sc := defScope s_one_step) (by decide +kernel)) (fun _ _ _ _ _ => qb_tup rfl (qbs_cons (qb_nm (i := 4) sc_one_step.nd rfl (by first | exact .inl rfl | exact .inr rfl)) (qbs_cons (qb_nm (i := 5) sc_one_step.nd rfl (by first | exact .inl rfl | exact .inr rfl)) (qbs_nil)))) (fun _ _ _ _ _ => qts_nil) (fun _ _ _ _ _ => qe_op oq_mulT (qv 4) (qv 5)))) (qa_nil))) (qv 2)) (qa_nil))))))
theorem rd_one_step : ∀ ds S Q, sp_one_step ds S Q → t_one_step { nx := fun _ S' => Fin3 S Q (.p .none) S', rt := Fin3 S Q } (env0 6 ds) S := by
  rintro _ S Q ⟨k, taps, st, rfl, M, h, q⟩
  have hp := M.pos
  unfold t_one_step mach tupI
  walk_at "rd"
  simp only [cut3_tail, tail_ints]
  refine ⟨fun i acc s => s = S ∧ acc = (((taps.zip st).take i).map fun p => p.1 * p.2).map PyData.int, ⟨rfl, rfl⟩, fun _ _ _ _ => trivial, ?_, ?_⟩
  · rintro i d acc s hd ⟨rfl, rfl⟩
    obtain ⟨a, b, h1, h2, rfl⟩ := zip3_get hd
    rw [List.getElem?_map] at h1 h2
    obtain ⟨x, hx, rfl⟩ := Option.map_eq_some_iff.mp h1
    obtain ⟨y, hy, rfl⟩ := Option.map_eq_some_iff.mp h2
    have hxm := M.ok x (List.mem_of_getElem? hx)
    walk_at "rd"
    refine ⟨.inl ⟨by omega, by omega⟩, ?_⟩
    rw [take_one (show (taps.zip st)[i]? = some (x, y) from List.getElem?_zip_eq_some.mpr ⟨hx, hy⟩)]
    simp
  · rintro acc s ⟨rfl, rfl⟩
    have hl : (zip3 (taps.map PyData.int) (st.map PyData.int)).length = (taps.zip st).length := by rw [zip3_len, List.length_zip, List.length_map, List.length_map]
    rw [hl, List.take_length]
    walk_at "rd"
    rw [allP_ints]
    walk_at "rd"
    have := h.len
    refine ⟨hp.1, by rw [List.length_tail]; omega, fin_p ?_⟩
    have e : List.map PyData.int st.tail ++ [PyData.int ((List.map (fun p : Int × Int => p.1 * p.2) (taps.zip st)).sum % k)] = List.map PyData.int (stepL k taps st) := by
      unfold stepL dotL
      rw [List.map_append]
      rfl
    rw [e]
    exact q
theorem ok_one_step (T : Txt K mg base) : Ok3 P w K mg base 1 "one_step" sp_one_step := by
  obtain ⟨f, fd, F, hm, hb⟩ := T.f_one_step
  exact Ok3.mk' F hm hb sc_one_step (fun ds S Q h => by simp only [sp_one_step] at h; first | (obtain ⟨rfl, _⟩ := h; rfl) | (obtain ⟨_, rfl, _⟩ := h; rfl) | (obtain ⟨_, _, rfl, _⟩ := h; rfl) | (obtain ⟨_, _, _, rfl, _⟩ := h; rfl) | (obtain ⟨_, _, _, _, rfl, _⟩ := h; rfl) | (obtain ⟨_, _, _, _, _, rfl, _⟩ := h; rfl) | (obtain ⟨_, _, _, _, _, _, rfl, _⟩ := h; rfl) | (obtain ⟨_, _, _, _, _, _, _, rfl, _⟩ := h; rfl) | (obtain ⟨_, _, _, _, _, _, _, _, rfl, _⟩ := h; rfl) | (obtain ⟨_, _, _, _, _, _, _, _, _, rfl, _⟩ := h; rfl) | (obtain ⟨_, _, _, _, _, _, _, _, _, _, rfl, _⟩ := h; rfl) | exact h.2) (fun cdv A outer s H E hr => dv_one_step T hr) rd_one_step
def sp_round_of : Sp3 := fun ds S Q => ∃ (k : Int) (taps st : List Int) (p : Nat), ds = [.p (mach k taps), .p (tupI st)] ∧ Mach k taps ∧ Sta k taps st ∧ Per k taps st p ∧ Q (.p (.list ((List.range p).map fun j => tupI (itr k taps j st)))) S
def t_round_of : TS3 := tSeq3 (tSet3 2 (tOwn (tLst3 (tCons3 (tVar3 1) (tNil3))))) (tSeq3 (tSet3 3 (tCB3 sp_one_step (tCons3 (tVar3 0) (tCons3 (tVar3 1) (tNil3))))) (tSeq3 (tWhile3 (tTest3 (tOp3 rNeS3 (tVar3 3) (tVar3 1))) (tSeq3 (tDrop3 (tApp3 (tVar3 2) (tVar3 3))) (tSet3 3 (tCB3 sp_one_step (tCons3 (tVar3 0) (tCons3 (tVar3 3) (tNil3))))))) (tFrz3 2 (tRet3 (tVar3 2)))))
theorem dv_round_of (T : Txt K mg base) {f : Addr} {cdv : Value} {A : Around} {outer : List Env} {s : Shared} {H : Hp} {E : XK} (hr : Room 1 (A.deeper (envOfC "round_of" (defScope s_round_of) s.heap.objs.size f cdv))) : QSs (cxOf CX0 P w K mg base nm_round_of "round_of" (defScope s_round_of) f cdv A outer s H E).nox (defBody s_round_of) t_round_of :=
  qss_cons (qs_set (i := 2) sc_round_of.nd rfl (by first | exact .inl rfl | exact .inr rfl) (qn_own (qn_lst (qa_cons (qv 1) (qa_nil))))) (qss_cons (qs_set (i := 3) sc_round_of.nd rfl (by first | exact .inl rfl | exact .inr rfl) (qe_call (ok_one_step T) (hr.mono (by decide)) (by rfl) (qa_cons (qv 0) (qa_cons (qv 1) (qa_nil))))) (qss_cons (qs_while PassesOwn.never (qt_cmp (oq_neS hr.units) (qv 3) (qv 1)) (qss_cons (qs_expr (qe_append (qv 2) (qv 3))) (qss_one (qs_set (i := 3) sc_round_of.nd rfl (by first | exact .inl rfl | exact .inr rfl) (qe_call (ok_one_step T) (hr.mono (by decide)) (by rfl) (qa_cons (qv 0) (qa_cons (qv 3) (qa_nil)))))))) (qss_frz 2 (qss_one (qs_ret (qv 2))))))
theorem rd_round_of : ∀ ds S Q, sp_round_of ds S Q → t_round_of { nx := fun _ S' => Fin3 S Q (.p .none) S', rt := Fin3 S Q } (env0 4 ds) S := by
  rintro _ S Q ⟨k, taps, st, p, rfl, M, h, P, q⟩
  unfold t_round_of sp_one_step
  walk_at "rd"
  refine ⟨k, taps, st, rfl, M, h, ?_⟩
  refine ⟨fun m e s => ∃ i, i + 1 ≤ p ∧ m = p - i ∧ e = [some (.p (mach k taps)), some (.p (tupI st)), some (.loc S.length), some (.p (tupI (itr k taps (i + 1) st)))] ∧ s = S ++ [some (.lst ((List.range (i + 1)).map fun j => tupI (itr k taps j st)))], ⟨_, 0, P.pos, rfl, rfl, rfl⟩, ?_⟩
  rintro m _ _ ⟨i, hi, rfl, rfl, rfl⟩
  have hs := h.itr M (i + 1)
  have sh : ∀ st, Sta k taps st → SeqAt.shaped (tupI st) = true := fun st h => (shows_tupI (n := 9) (fun x hx => by
    have := h.ok x hx
    have := M.pos
    omega) (by rw [h.len]; exact M.pos.2.2.2)).shaped (by decide)
  walk_at "rd"
  have e1 := sh _ hs
  have e2 := sh _ h
  unfold tupI at e1 e2
  unfold tupI
  walk_at "rd"
  have e3 := eqv_tupI (itr k taps (i + 1) st) st
  unfold tupI at e3
  rw [e3]
  refine ⟨⟨e1, e2⟩, ?_⟩
  by_cases hb : itr k taps (i + 1) st = st
  · rw [hb, decide_eq_true rfl]
    walk_at "rd"
    have hip : i + 1 = p := Classical.byContradiction fun hn => P.first (i + 1) (by omega) (by omega) hb
    unfold tFrz3
    walk_at "rd"
    simp only [List.getElem?_append_right (Nat.le_refl _), Nat.sub_self, List.getElem?_cons_zero]
    refine ⟨_, rfl, ?_⟩
    walk_at "rd"
    rw [hip]
    exact fin_of (by simp) q
  · rw [decide_eq_false hb]
    walk_at "rd"
    simp only [List.getElem?_append_right (Nat.le_refl _), Nat.sub_self, List.getElem?_cons_zero]
    have hip : i + 1 < p := by
      rcases Nat.lt_or_ge (i + 1) p with z | z
      · exact z
      · have : i + 1 = p := by omega
        rw [this] at hb
        exact absurd P.back hb
    have := P.few
    walk_at "rd"
    refine ⟨by simp; omega, k, taps, _, rfl, M, hs, wk_self ⟨p - (i + 1), by omega, i + 1, by omega, rfl, rfl, ?_⟩⟩
    rw [List.range_succ (n := i + 1), List.map_append]
    simp
theorem ok_round_of (T : Txt K mg base) : Ok3 P w K mg base 2 "round_of" sp_round_of := by
  obtain ⟨f, fd, F, hm, hb⟩ := T.f_round_of
  exact Ok3.mk' F hm hb sc_round_of (fun ds S Q h => by simp only [sp_round_of] at h; first | (obtain ⟨rfl, _⟩ := h; rfl) | (obtain ⟨_, rfl, _⟩ := h; rfl) | (obtain ⟨_, _, rfl, _⟩ := h; rfl) | (obtain ⟨_, _, _, rfl, _⟩ := h; rfl) | (obtain ⟨_, _, _, _, rfl, _⟩ := h; rfl) | (obtain ⟨_, _, _, _, _, rfl, _⟩ := h; rfl) | (obtain ⟨_, _, _, _, _, _, rfl, _⟩ := h; rfl) | (obtain ⟨_, _, _, _, _, _, _, rfl, _⟩ := h; rfl) | (obtain ⟨_, _, _, _, _, _, _, _, rfl, _⟩ := h; rfl) | (obtain ⟨_, _, _, _, _, _, _, _, _, rfl, _⟩ := h; rfl) | (obtain ⟨_, _, _, _, _, _, _, _, _, _, rfl, _⟩ := h; rfl) | exact h.2) (fun cdv A outer s H E hr => dv_round_of T hr) rd_round_of
def sp_units : Sp3 := fun ds S Q => ∃ (k : Int) (taps : List Int), ds = [.p (mach k taps)] ∧ Mach k taps ∧ Q (.p (.list ((List.range taps.length).map fun i => tupI (unitL taps.length i)))) S
def t_units : TS3 := tSeq3 (tSet3 1 (tCB3 (rLenA3) (tCons3 (tOp3 rIx3 (tVar3 0) (tC3 (.int 1))) (tNil3)))) (tRet3 (tPure (tLc3 (tRng1 (tCons3 (tVar3 1) (tNil3))) (.nm 2) (tYes3) (tOp3 rAdd3 (tOp3 rAdd3 (tOp3 rMulT3 (tTup3 (tCons3 (tC3 (.int 0)) (tNil3))) (tVar3 2)) (tTup3 (tCons3 (tC3 (.int 1)) (tNil3)))) (tOp3 rMulT3 (tTup3 (tCons3 (tC3 (.int 0)) (tNil3))) (tOp3 rSub3 (tOp3 rSub3 (tVar3 1) (tC3 (.int 1))) (tVar3 2)))) [2])))
theorem dv_units (T : Txt K mg base) {f : Addr} {cdv : Value} {A : Around} {outer : List Env} {s : Shared} {H : Hp} {E : XK} (hr : Room 0 (A.deeper (envOfC "units" (defScope s_units) s.heap.objs.size f cdv))) : QSs (cxOf CX0 P w K mg base nm_units "units" (defScope s_units) f cdv A outer s H E).nox (defBody s_units) t_units :=
  qss_cons (qs_set (i := 1) sc_units.nd rfl (by first | exact .inl rfl | exact .inr rfl) (qe_cb cq_lenA (by rfl) T.b_len (by decide +kernel) (qa_cons (qe_ix iq_seq (qv 0) (qe_int)) (qa_nil)))) (qss_one (qs_ret (qn_pure (qn_lc (own := [("at", 2)]) rfl sc_units.nd (qi_range1 (by rfl) T.b_range (qa_cons (qv 1) (qa_nil))) (blkOk_by (own := [("at", 2)]) (N := nm_units) (sc := defScope s_units) (by decide +kernel)) (fun _ _ _ _ _ => qb_nm (i := 2) sc_units.nd rfl (by first | exact .inl rfl | exact .inr rfl)) (fun _ _ _ _ _ => qts_nil) (fun _ _ _ _ _ => qe_op oq_add (qe_op oq_add (qe_op oq_mulT (qe_tup (qa_cons (qe_int) (qa_nil))) (qv 2)) (qe_tup (qa_cons (qe_int) (qa_nil)))) (qe_op oq_mulT (qe_tup (qa_cons (qe_int) (qa_nil))) (qe_op oq_sub (qe_op oq_sub (qv 1) (qe_int)) (qv 2))))))))
theorem rd_units : ∀ ds S Q, sp_units ds S Q → t_units { nx := fun _ S' => Fin3 S Q (.p .none) S', rt := Fin3 S Q } (env0 3 ds) S := by
  rintro _ S Q ⟨k, taps, rfl, M, q⟩
  have hp := M.pos
  unfold t_units mach tupI
  walk_at "rd"
  refine ⟨by omega, fun i acc s => s = S ∧ acc = (List.range i).map fun i => tupI (unitL taps.length i), ⟨rfl, rfl⟩, fun _ _ _ _ => trivial, ?_, ?_⟩
  · rintro i d acc s hi ⟨rfl, rfl⟩
    obtain ⟨hi, rfl⟩ := rng_get hi
    have him : i < taps.length := by omega
    rw [Int.zero_add]
    walk_at "rd"
    have e1 : ((taps.length : Int) - 1 - (i : Nat)) = ((taps.length - 1 - i : Nat) : Int) := by omega
    rw [e1]
    simp only [rep3_single, Int.toNat_natCast, List.length_append, List.length_replicate, List.length_cons, List.length_nil]
    refine ⟨by omega, by omega, by omega, by omega, ?_⟩
    have e2 : List.replicate i (PyData.int 0) ++ [PyData.int 1] ++ List.replicate (taps.length - 1 - i) (PyData.int 0) = (unitL taps.length i).map PyData.int := by
      rw [← unitL_code him, List.map_append, List.map_append, List.map_replicate, List.map_replicate]
      rfl
    rw [e2, List.range_succ, List.map_append]
    rfl
  · rintro acc s ⟨rfl, rfl⟩
    rw [rng_len, Int.toNat_natCast]
    exact fin_p q
theorem ok_units (T : Txt K mg base) : Ok3 P w K mg base 1 "units" sp_units := by
  obtain ⟨f, fd, F, hm, hb⟩ := T.f_units
  exact Ok3.mk' F hm hb sc_units (fun ds S Q h => by simp only [sp_units] at h; first | (obtain ⟨rfl, _⟩ := h; rfl) | (obtain ⟨_, rfl, _⟩ := h; rfl) | (obtain ⟨_, _, rfl, _⟩ := h; rfl) | (obtain ⟨_, _, _, rfl, _⟩ := h; rfl) | (obtain ⟨_, _, _, _, rfl, _⟩ := h; rfl) | (obtain ⟨_, _, _, _, _, rfl, _⟩ := h; rfl) | (obtain ⟨_, _, _, _, _, _, rfl, _⟩ := h; rfl) | (obtain ⟨_, _, _, _, _, _, _, rfl, _⟩ := h; rfl) | (obtain ⟨_, _, _, _, _, _, _, _, rfl, _⟩ := h; rfl) | (obtain ⟨_, _, _, _, _, _, _, _, _, rfl, _⟩ := h; rfl) | (obtain ⟨_, _, _, _, _, _, _, _, _, _, rfl, _⟩ := h; rfl) | exact h.2) (fun cdv A outer s H E hr => dv_units T hr) rd_units
def sp_shown : Sp3 := fun ds S Q => ∃ (k : Int) (taps st : List Int) (pat : List Nat), ds = [.p (mach k taps), .p (tupI (patI pat)), .p (tupI st)] ∧ Mach k taps ∧ Sta k taps st ∧ Q (.p (tupI (seen k taps pat st))) S
def t_shown : TS3 := tSeq3 (tSet3 3 (tCB3 sp_round_of (tCons3 (tVar3 0) (tCons3 (tVar3 2) (tNil3))))) (tRet3 (tCB3 (rTupOf3) (tCons3 (tPure (tLc3 (tSeqI3 (tVar3 1)) (.nm 4) (tYes3) (tOp3 rIx3 (tOp3 rIx3 (tVar3 3) (tOp3 rMod3 (tVar3 4) (tCB3 (rLenA3) (tCons3 (tVar3 3) (tNil3))))) (tC3 (.int 0))) [4])) (tNil3))))
theorem dv_shown (T : Txt K mg base) {f : Addr} {cdv : Value} {A : Around} {outer : List Env} {s : Shared} {H : Hp} {E : XK} (hr : Room 2 (A.deeper (envOfC "shown" (defScope s_shown) s.heap.objs.size f cdv))) : QSs (cxOf CX0 P w K mg base nm_shown "shown" (defScope s_shown) f cdv A outer s H E).nox (defBody s_shown) t_shown :=
  qss_cons (qs_set (i := 3) sc_shown.nd rfl (by first | exact .inl rfl | exact .inr rfl) (qe_call (ok_round_of T) (hr.mono (by decide)) (by rfl) (qa_cons (qv 0) (qa_cons (qv 2) (qa_nil))))) (qss_one (qs_ret (qe_ty cq_tuple (by rfl) T.b_tuple (by decide +kernel) (qa_cons (qn_pure (qn_lc (own := [("number", 4)]) rfl sc_shown.nd (qi_seq (qv 1)) (blkOk_by (own := [("number", 4)]) (N := nm_shown) (sc := defScope s_shown) (by decide +kernel)) (fun _ _ _ _ _ => qb_nm (i := 4) sc_shown.nd rfl (by first | exact .inl rfl | exact .inr rfl)) (fun _ _ _ _ _ => qts_nil) (fun _ _ _ _ _ => qe_ix iq_seq (qe_ix iq_seq (qv 3) (qe_op oq_mod (qv 4) (qe_cb cq_lenA (by rfl) T.b_len (by decide +kernel) (qa_cons (qv 3) (qa_nil))))) (qe_int)))) (qa_nil)))))
theorem rd_shown : ∀ ds S Q, sp_shown ds S Q → t_shown { nx := fun _ S' => Fin3 S Q (.p .none) S', rt := Fin3 S Q } (env0 5 ds) S := by
  rintro _ S Q ⟨k, taps, st, pat, rfl, M, h, q⟩
  obtain ⟨p, P⟩ := per_ex M h
  have hp0 := P.pos
  unfold t_shown sp_round_of
  walk_at "rd"
  refine ⟨k, taps, st, p, rfl, M, h, P, ?_⟩
  unfold tupI patI
  walk_at "rd"
  refine ⟨fun i acc s => s = S ∧ acc = ((seen k taps pat st).take i).map PyData.int, ⟨rfl, rfl⟩, fun _ _ _ _ => trivial, ?_, ?_⟩
  · rintro i d acc s hd ⟨rfl, rfl⟩
    rw [List.getElem?_map, List.getElem?_map] at hd
    obtain ⟨x, hx, rfl⟩ := Option.map_eq_some_iff.mp hd
    obtain ⟨n, hn, rfl⟩ := Option.map_eq_some_iff.mp hx
    walk_at "rd"
    have hm : (n : Int) % (p : Int) = ((n % p : Nat) : Int) := rfl
    simp only [List.length_range, hm, show atI ((List.range p).map fun j => PyData.tuple ((itr k taps j st).map PyData.int)) ((n % p : Nat) : Int) = some (PyData.tuple ((itr k taps n st).map PyData.int)) from atI_nat (by rw [List.getElem?_map, List.getElem?_range (Nat.mod_lt _ hp0), ← P.mod n]; rfl)]
    walk_at "rd"
    simp only [List.getElem?_map, hdI_get ((h.itr M n).ne M), Option.map_some]
    have e : (seen k taps pat st)[i]? = some (hdI (itr k taps n st)) := by
      unfold seen
      rw [List.getElem?_map, hn]
      rfl
    refine ⟨by omega, ?_⟩
    rw [take_one e]
    simp
  · rintro acc s ⟨rfl, rfl⟩
    have e : (seen k taps pat st).take pat.length = seen k taps pat st := List.take_of_length_le (by rw [seen_len]; exact Nat.le_refl _)
    simp only [e]
    exact fin_p q
theorem ok_shown (T : Txt K mg base) : Ok3 P w K mg base 3 "shown" sp_shown := by
  obtain ⟨f, fd, F, hm, hb⟩ := T.f_shown
  exact Ok3.mk' F hm hb sc_shown (fun ds S Q h => by simp only [sp_shown] at h; first | (obtain ⟨rfl, _⟩ := h; rfl) | (obtain ⟨_, rfl, _⟩ := h; rfl) | (obtain ⟨_, _, rfl, _⟩ := h; rfl) | (obtain ⟨_, _, _, rfl, _⟩ := h; rfl) | (obtain ⟨_, _, _, _, rfl, _⟩ := h; rfl) | (obtain ⟨_, _, _, _, _, rfl, _⟩ := h; rfl) | (obtain ⟨_, _, _, _, _, _, rfl, _⟩ := h; rfl) | (obtain ⟨_, _, _, _, _, _, _, rfl, _⟩ := h; rfl) | (obtain ⟨_, _, _, _, _, _, _, _, rfl, _⟩ := h; rfl) | (obtain ⟨_, _, _, _, _, _, _, _, _, rfl, _⟩ := h; rfl) | (obtain ⟨_, _, _, _, _, _, _, _, _, _, rfl, _⟩ := h; rfl) | exact h.2) (fun cdv A outer s H E hr => dv_shown T hr) rd_shown
def sp_parted_by : Sp3 := fun ds S Q => ∃ (k x : Int), ds = [.p (.int x), .p (.int k)] ∧ prK k ∧ 0 < x ∧ x < k ∧ Q (.p (.int (invF k x))) S
def t_parted_by : TS3 := tRet3 (tOp3 rIx3 (tPure (tLc3 (tRng1 (tCons3 (tVar3 1) (tNil3))) (.nm 2) (tTest3 (tOp3 rEqS3 (tOp3 rMod3 (tOp3 rMulT3 (tVar3 2) (tVar3 0)) (tVar3 1)) (tC3 (.int 1)))) (tVar3 2) [2])) (tC3 (.int 0)))
theorem dv_parted_by (T : Txt K mg base) {f : Addr} {cdv : Value} {A : Around} {outer : List Env} {s : Shared} {H : Hp} {E : XK} (hr : Room 0 (A.deeper (envOfC "parted_by" (defScope s_parted_by) s.heap.objs.size f cdv))) : QSs (cxOf CX0 P w K mg base nm_parted_by "parted_by" (defScope s_parted_by) f cdv A outer s H E).nox (defBody s_parted_by) t_parted_by :=
  qss_one (qs_ret (qe_ix iq_seq (qn_pure (qn_lc (own := [("one", 2)]) rfl sc_parted_by.nd (qi_range1 (by rfl) T.b_range (qa_cons (qv 1) (qa_nil))) (blkOk_by (own := [("one", 2)]) (N := nm_parted_by) (sc := defScope s_parted_by) (by decide +kernel)) (fun _ _ _ _ _ => qb_nm (i := 2) sc_parted_by.nd rfl (by first | exact .inl rfl | exact .inr rfl)) (fun _ _ _ _ _ => qts_one (qt_cmp (oq_eqS hr.units) (qe_op oq_mod (qe_op oq_mulT (qv 2) (qv 0)) (qv 1)) (qe_int))) (fun _ _ _ _ _ => qv 2))) (qe_int)))
theorem rd_parted_by : ∀ ds S Q, sp_parted_by ds S Q → t_parted_by { nx := fun _ S' => Fin3 S Q (.p .none) S', rt := Fin3 S Q } (env0 3 ds) S := by
  rintro _ S Q ⟨k, x, rfl, hk, x0, x1, q⟩
  have hk7 : 0 < k ∧ k ≤ 7 := by unfold prK at hk; omega
  have hin := inv_ok hk (show x ≠ 0 by omega) (by omega) x1
  unfold t_parted_by
  walk_at "rd"
  refine ⟨⟨by omega, by omega⟩, fun i acc s => s = S ∧ acc = (((List.range i).map Int.ofNat).filter fun y => decide (y * x % k = 1)).map PyData.int, ⟨rfl, rfl⟩, fun _ _ _ _ => trivial, ?_, ?_⟩
  · rintro i d acc s hd ⟨rfl, rfl⟩
    obtain ⟨hi, rfl⟩ := rng_get hd
    walk_at "rd"
    refine ⟨.inr (.inl (by omega)), by omega, ?_⟩
    rw [Int.zero_add, List.range_succ, List.map_append, List.filter_append]
    by_cases h : (i : Int) * x % k = 1
    · rw [if_pos h]
      simp [h]
    · rw [if_neg h]
      simp [h]
  · rintro acc s ⟨rfl, rfl⟩
    rw [rng_len]
    have e : (((List.range k.toNat).map Int.ofNat).filter fun y => decide (y * x % k = 1)) = invF k x :: (invL k x).tail := hin.1
    rw [e]
    walk_at "rd"
    exact fin_p q
theorem ok_parted_by (T : Txt K mg base) : Ok3 P w K mg base 1 "parted_by" sp_parted_by := by
  obtain ⟨f, fd, F, hm, hb⟩ := T.f_parted_by
  exact Ok3.mk' F hm hb sc_parted_by (fun ds S Q h => by simp only [sp_parted_by] at h; first | (obtain ⟨rfl, _⟩ := h; rfl) | (obtain ⟨_, rfl, _⟩ := h; rfl) | (obtain ⟨_, _, rfl, _⟩ := h; rfl) | (obtain ⟨_, _, _, rfl, _⟩ := h; rfl) | (obtain ⟨_, _, _, _, rfl, _⟩ := h; rfl) | (obtain ⟨_, _, _, _, _, rfl, _⟩ := h; rfl) | (obtain ⟨_, _, _, _, _, _, rfl, _⟩ := h; rfl) | (obtain ⟨_, _, _, _, _, _, _, rfl, _⟩ := h; rfl) | (obtain ⟨_, _, _, _, _, _, _, _, rfl, _⟩ := h; rfl) | (obtain ⟨_, _, _, _, _, _, _, _, _, rfl, _⟩ := h; rfl) | (obtain ⟨_, _, _, _, _, _, _, _, _, _, rfl, _⟩ := h; rfl) | exact h.2) (fun cdv A outer s H E hr => dv_parted_by T hr) rd_parted_by
def sp_scaled : Sp3 := fun ds S Q => ∃ (k a : Int) (r : List Int), ds = [.p (tupI r), .p (.int a), .p (.int k)] ∧ 0 < k ∧ k ≤ 7 ∧ (∀ x ∈ r, 0 ≤ x ∧ x < k) ∧ Q (.p (tupI (scaL k a r))) S
def t_scaled : TS3 := tRet3 (tCB3 (rTupOf3) (tCons3 (tPure (tLc3 (tSeqI3 (tVar3 0)) (.nm 3) (tYes3) (tOp3 rMod3 (tOp3 rMulT3 (tVar3 3) (tVar3 1)) (tVar3 2)) [3])) (tNil3)))
theorem dv_scaled (T : Txt K mg base) {f : Addr} {cdv : Value} {A : Around} {outer : List Env} {s : Shared} {H : Hp} {E : XK} (hr : Room 0 (A.deeper (envOfC "scaled" (defScope s_scaled) s.heap.objs.size f cdv))) : QSs (cxOf CX0 P w K mg base nm_scaled "scaled" (defScope s_scaled) f cdv A outer s H E).nox (defBody s_scaled) t_scaled :=
  qss_one (qs_ret (qe_ty cq_tuple (by rfl) T.b_tuple (by decide +kernel) (qa_cons (qn_pure (qn_lc (own := [("one", 3)]) rfl sc_scaled.nd (qi_seq (qv 0)) (blkOk_by (own := [("one", 3)]) (N := nm_scaled) (sc := defScope s_scaled) (by decide +kernel)) (fun _ _ _ _ _ => qb_nm (i := 3) sc_scaled.nd rfl (by first | exact .inl rfl | exact .inr rfl)) (fun _ _ _ _ _ => qts_nil) (fun _ _ _ _ _ => qe_op oq_mod (qe_op oq_mulT (qv 3) (qv 1)) (qv 2)))) (qa_nil))))
theorem rd_scaled : ∀ ds S Q, sp_scaled ds S Q → t_scaled { nx := fun _ S' => Fin3 S Q (.p .none) S', rt := Fin3 S Q } (env0 4 ds) S := by
  rintro _ S Q ⟨k, a, r, rfl, k0, k1, hr, q⟩
  unfold t_scaled tupI
  walk_at "rd"
  refine ⟨fun i acc s => s = S ∧ acc = (scaL k a (r.take i)).map PyData.int, ⟨rfl, rfl⟩, fun _ _ _ _ => trivial, ?_, ?_⟩
  · rintro i d acc s hd ⟨rfl, rfl⟩
    rw [List.getElem?_map] at hd
    obtain ⟨x, hx, rfl⟩ := Option.map_eq_some_iff.mp hd
    have hxm := hr x (List.mem_of_getElem? hx)
    walk_at "rd"
    refine ⟨.inl ⟨by omega, by omega⟩, by omega, ?_⟩
    rw [take_one hx]
    unfold scaL
    rw [List.map_append, List.map_append]
    rfl
  · rintro acc s ⟨rfl, rfl⟩
    rw [List.take_length]
    exact fin_p q
theorem ok_scaled (T : Txt K mg base) : Ok3 P w K mg base 1 "scaled" sp_scaled := by
  obtain ⟨f, fd, F, hm, hb⟩ := T.f_scaled
  exact Ok3.mk' F hm hb sc_scaled (fun ds S Q h => by simp only [sp_scaled] at h; first | (obtain ⟨rfl, _⟩ := h; rfl) | (obtain ⟨_, rfl, _⟩ := h; rfl) | (obtain ⟨_, _, rfl, _⟩ := h; rfl) | (obtain ⟨_, _, _, rfl, _⟩ := h; rfl) | (obtain ⟨_, _, _, _, rfl, _⟩ := h; rfl) | (obtain ⟨_, _, _, _, _, rfl, _⟩ := h; rfl) | (obtain ⟨_, _, _, _, _, _, rfl, _⟩ := h; rfl) | (obtain ⟨_, _, _, _, _, _, _, rfl, _⟩ := h; rfl) | (obtain ⟨_, _, _, _, _, _, _, _, rfl, _⟩ := h; rfl) | (obtain ⟨_, _, _, _, _, _, _, _, _, rfl, _⟩ := h; rfl) | (obtain ⟨_, _, _, _, _, _, _, _, _, _, rfl, _⟩ := h; rfl) | exact h.2) (fun cdv A outer s H E hr => dv_scaled T hr) rd_scaled
def sp_less_so_many : Sp3 := fun ds S Q => ∃ (k m : Int) (r o : List Int), ds = [.p (tupI r), .p (tupI o), .p (.int m), .p (.int k)] ∧ 0 < k ∧ k ≤ 7 ∧ (∀ x ∈ o, 0 ≤ x ∧ x < k) ∧ Q (.p (tupI (lesL k m r o))) S
def t_less_so_many : TS3 := tRet3 (tCB3 (rTupOf3) (tCons3 (tPure (tLc3 (tZipI3 (tCons3 (tVar3 0) (tCons3 (tVar3 1) (tNil3)))) (.tup (.cons (.nm 4) (.cons (.nm 5) (.nil)))) (tYes3) (tOp3 rMod3 (tOp3 rSub3 (tVar3 4) (tOp3 rMulT3 (tVar3 2) (tVar3 5))) (tVar3 3)) [4, 5])) (tNil3)))
theorem dv_less_so_many (T : Txt K mg base) {f : Addr} {cdv : Value} {A : Around} {outer : List Env} {s : Shared} {H : Hp} {E : XK} (hr : Room 0 (A.deeper (envOfC "less_so_many" (defScope s_less_so_many) s.heap.objs.size f cdv))) : QSs (cxOf CX0 P w K mg base nm_less_so_many "less_so_many" (defScope s_less_so_many) f cdv A outer s H E).nox (defBody s_less_so_many) t_less_so_many :=
  qss_one (qs_ret (qe_ty cq_tuple (by rfl) T.b_tuple (by decide +kernel) (qa_cons (qn_pure (qn_lc (own := [("one", 4), ("two", 5)]) rfl sc_less_so_many.nd (qi_zip rfl (by rfl) T.b_zip (qa_cons (qv 0) (qa_cons (qv 1) (qa_nil)))) (blkOk_by (own := [("one", 4), ("two", 5)]) (N := nm_less_so_many) (sc := defScope s_less_so_many) (by decide +kernel)) (fun _ _ _ _ _ => qb_tup rfl (qbs_cons (qb_nm (i := 4) sc_less_so_many.nd rfl (by first | exact .inl rfl | exact .inr rfl)) (qbs_cons (qb_nm (i := 5) sc_less_so_many.nd rfl (by first | exact .inl rfl | exact .inr rfl)) (qbs_nil)))) (fun _ _ _ _ _ => qts_nil) (fun _ _ _ _ _ => qe_op oq_mod (qe_op oq_sub (qv 4) (qe_op oq_mulT (qv 2) (qv 5))) (qv 3)))) (qa_nil))))
theorem rd_less_so_many : ∀ ds S Q, sp_less_so_many ds S Q → t_less_so_many { nx := fun _ S' => Fin3 S Q (.p .none) S', rt := Fin3 S Q } (env0 6 ds) S := by
  rintro _ S Q ⟨k, m, r, o, rfl, k0, k1, ho, q⟩
  unfold t_less_so_many tupI
  walk_at "rd"
  refine ⟨fun i acc s => s = S ∧ acc = ((lesL k m r o).take i).map PyData.int, ⟨rfl, rfl⟩, fun _ _ _ _ => trivial, ?_, ?_⟩
  · rintro i d acc s hd ⟨rfl, rfl⟩
    obtain ⟨x', y', h1, h2, rfl⟩ := zip3_get hd
    rw [List.getElem?_map] at h1 h2
    obtain ⟨x, hx, rfl⟩ := Option.map_eq_some_iff.mp h1
    obtain ⟨y, hy, rfl⟩ := Option.map_eq_some_iff.mp h2
    have hym := ho y (List.mem_of_getElem? hy)
    walk_at "rd"
    have e : (lesL k m r o)[i]? = some ((x - m * y) % k) := by
      unfold lesL
      rw [List.getElem?_map, show (r.zip o)[i]? = some (x, y) from List.getElem?_zip_eq_some.mpr ⟨hx, hy⟩]
      rfl
    refine ⟨.inr (.inl ⟨by omega, by omega⟩), k0, ?_⟩
    rw [take_one e]
    simp
  · rintro acc s ⟨rfl, rfl⟩
    have e : (lesL k m r o).take (zip3 (r.map PyData.int) (o.map PyData.int)).length = lesL k m r o := List.take_of_length_le (by
      unfold lesL
      rw [zip3_len, List.length_map, List.length_map, List.length_map, List.length_zip]
      exact Nat.le_refl _)
    simp only [e]
    exact fin_p q
theorem ok_less_so_many (T : Txt K mg base) : Ok3 P w K mg base 1 "less_so_many" sp_less_so_many := by
  obtain ⟨f, fd, F, hm, hb⟩ := T.f_less_so_many
  exact Ok3.mk' F hm hb sc_less_so_many (fun ds S Q h => by simp only [sp_less_so_many] at h; first | (obtain ⟨rfl, _⟩ := h; rfl) | (obtain ⟨_, rfl, _⟩ := h; rfl) | (obtain ⟨_, _, rfl, _⟩ := h; rfl) | (obtain ⟨_, _, _, rfl, _⟩ := h; rfl) | (obtain ⟨_, _, _, _, rfl, _⟩ := h; rfl) | (obtain ⟨_, _, _, _, _, rfl, _⟩ := h; rfl) | (obtain ⟨_, _, _, _, _, _, rfl, _⟩ := h; rfl) | (obtain ⟨_, _, _, _, _, _, _, rfl, _⟩ := h; rfl) | (obtain ⟨_, _, _, _, _, _, _, _, rfl, _⟩ := h; rfl) | (obtain ⟨_, _, _, _, _, _, _, _, _, rfl, _⟩ := h; rfl) | (obtain ⟨_, _, _, _, _, _, _, _, _, _, rfl, _⟩ := h; rfl) | exact h.2) (fun cdv A outer s H E hr => dv_less_so_many T hr) rd_less_so_many
def sp_reduce_rows : Sp3 := fun ds S Q => ∃ (m : Nat) (k : Int) (taps : List Int) (pat : List Nat) (ss : List (List Int)), ds = [.loc m, .p (.int (pat.length : Nat)), .p (.int k)] ∧ S[m]? = some (some (.lst (rowsD k taps pat ss))) ∧ Mach k taps ∧ pat.length ≤ 16 ∧ ss.length = taps.length ∧ (∀ t, t < taps.length → Vc k taps.length (ss.getD t [])) ∧ Bas k taps.length (enL ss) ∧ Q (.p (.list (natL (redF k (shG k taps pat) ss pat.length).2))) (S.set m (some (.lst (rowsD k taps pat (redF k (shG k taps pat) ss pat.length).1))))
def t_reduce_rows_b2 : TS3 := tIfS3 (tTest3 (tOp3 rNeS3 (tVar3 6) (tVar3 5))) (tPut3 (tCB3 sp_less_so_many (tCons3 (tOp3 rIx3 (tVar3 0) (tVar3 6)) (tCons3 (tOp3 rIx3 (tVar3 0) (tVar3 5)) (tCons3 (tOp3 rIx3 (tOp3 rIx3 (tVar3 0) (tVar3 6)) (tVar3 4)) (tCons3 (tVar3 2) (tNil3)))))) (tVar3 0) (tVar3 6)) (tNext3)
def t_reduce_rows_b1 : TS3 := tSeq3 (tSet3 5 (tCB3 (rLenA3) (tCons3 (tVar3 3) (tNil3)))) (tSeq3 (tSet3 7 (tPure (tLc3 (tRng2 (tCons3 (tVar3 5) (tCons3 (tCB3 (rLenA3) (tCons3 (tVar3 0) (tNil3))) (tNil3)))) (.nm 6) (tTest3 (tOp3 rNeS3 (tOp3 rIx3 (tOp3 rIx3 (tVar3 0) (tVar3 6)) (tVar3 4)) (tC3 (.int 0)))) (tVar3 6) [6]))) (tIfS3 (tTest3 (tOp3 rNeS3 (tVar3 7) (tPure (tLst3 (tNil3))))) (tSeq3 (tSwap3 (tCons3 (tOp3 rIx3 (tVar3 0) (tOp3 rIx3 (tVar3 7) (tC3 (.int 0)))) (tCons3 (tOp3 rIx3 (tVar3 0) (tVar3 5)) (tNil3))) (tVar3 0) (tVar3 5) (tVar3 0) (tOp3 rIx3 (tVar3 7) (tC3 (.int 0)))) (tSeq3 (tPut3 (tCB3 sp_scaled (tCons3 (tOp3 rIx3 (tVar3 0) (tVar3 5)) (tCons3 (tCB3 sp_parted_by (tCons3 (tOp3 rIx3 (tOp3 rIx3 (tVar3 0) (tVar3 5)) (tVar3 4)) (tCons3 (tVar3 2) (tNil3)))) (tCons3 (tVar3 2) (tNil3))))) (tVar3 0) (tVar3 5)) (tSeq3 (tFor3 (tRng1 (tCons3 (tCB3 (rLenA3) (tCons3 (tVar3 0) (tNil3))) (tNil3))) (.nm 6) (t_reduce_rows_b2)) (tDrop3 (tApp3 (tVar3 3) (tVar3 4)))))) (tNext3)))
def t_reduce_rows : TS3 := tSeq3 (tSet3 3 (tOwn (tLst3 (tNil3)))) (tSeq3 (tFor3 (tRng1 (tCons3 (tVar3 1) (tNil3))) (.nm 4) (t_reduce_rows_b1)) (tFrz3 3 (tRet3 (tVar3 3))))
theorem dv_reduce_rows (T : Txt K mg base) {f : Addr} {cdv : Value} {A : Around} {outer : List Env} {s : Shared} {H : Hp} {E : XK} (hr : Room 1 (A.deeper (envOfC "reduce_rows" (defScope s_reduce_rows) s.heap.objs.size f cdv))) : QSs (cxOf CX0 P w K mg base nm_reduce_rows "reduce_rows" (defScope s_reduce_rows) f cdv A outer s H E).nox (defBody s_reduce_rows) t_reduce_rows :=
  qss_cons (qs_set (i := 3) sc_reduce_rows.nd rfl (by first | exact .inl rfl | exact .inr rfl) (qn_own (qn_lst (qa_nil)))) (qss_cons (qs_for PassesOwn.never rfl (qi_range1 (by rfl) T.b_range (qa_cons (qv 1) (qa_nil))) (qb_nm (i := 4) sc_reduce_rows.nd rfl (by first | exact .inl rfl | exact .inr rfl)) (qss_cons (qs_set (i := 5) sc_reduce_rows.nd rfl (by first | exact .inl rfl | exact .inr rfl) (qe_cb cq_lenA (by rfl) T.b_len (by decide +kernel) (qa_cons (qv 3) (qa_nil)))) (qss_cons (qs_setLcP (i := 7) (own := [("at", 6)]) rfl sc_reduce_rows.nd rfl rfl (sw_true rfl rfl rfl (by decide +kernel)) (qi_range2 (by rfl) T.b_range (qa_cons (qv 5) (qa_cons (qe_cb cq_lenA (by rfl) T.b_len (by decide +kernel) (qa_cons (qv 0) (qa_nil))) (qa_nil)))) (blkOk_by (own := [("at", 6)]) (N := nm_reduce_rows) (sc := defScope s_reduce_rows) (by decide +kernel)) (fun _ _ _ _ _ => qb_nm (i := 6) sc_reduce_rows.nd rfl (by first | exact .inl rfl | exact .inr rfl)) (fun _ _ _ _ _ => qts_one (qt_cmp (oq_neS hr.units) (qe_ix iq_seq (qe_ix iq_seq (qv 0) (qv 6)) (qv 4)) (qe_int))) (fun _ _ _ _ _ => qv 6)) (qss_one (qs_if (qt_cmp (oq_neS hr.units) (qv 7) (qn_pure (qn_lst (qa_nil)))) (qss_cons (qs_swap rfl (qa_cons (qe_ix iq_seq (qv 0) (qe_ix iq_seq (qv 7) (qe_int))) (qa_cons (qe_ix iq_seq (qv 0) (qv 5)) (qa_nil))) (qv 0) (qv 5) (qv 0) (qe_ix iq_seq (qv 7) (qe_int))) (qss_cons (qs_put (qe_call (ok_scaled T) (hr.mono (by decide)) (by rfl) (qa_cons (qe_ix iq_seq (qv 0) (qv 5)) (qa_cons (qe_call (ok_parted_by T) (hr.mono (by decide)) (by rfl) (qa_cons (qe_ix iq_seq (qe_ix iq_seq (qv 0) (qv 5)) (qv 4)) (qa_cons (qv 2) (qa_nil)))) (qa_cons (qv 2) (qa_nil))))) (qv 0) (qv 5)) (qss_cons (qs_for PassesOwn.never rfl (qi_range1 (by rfl) T.b_range (qa_cons (qe_cb cq_lenA (by rfl) T.b_len (by decide +kernel) (qa_cons (qv 0) (qa_nil))) (qa_nil))) (qb_nm (i := 6) sc_reduce_rows.nd rfl (by first | exact .inl rfl | exact .inr rfl)) (qss_one (qs_if (qt_cmp (oq_neS hr.units) (qv 6) (qv 5)) (qss_one (qs_put (qe_call (ok_less_so_many T) (hr.mono (by decide)) (by rfl) (qa_cons (qe_ix iq_seq (qv 0) (qv 6)) (qa_cons (qe_ix iq_seq (qv 0) (qv 5)) (qa_cons (qe_ix iq_seq (qe_ix iq_seq (qv 0) (qv 6)) (qv 4)) (qa_cons (qv 2) (qa_nil)))))) (qv 0) (qv 6))) (qss_nil)))) (qss_one (qs_expr (qe_append (qv 3) (qv 4))))))) (qss_nil)))))) (qss_frz 3 (qss_one (qs_ret (qv 3)))))
theorem rd_reduce_rows : ∀ ds S Q, sp_reduce_rows ds S Q → t_reduce_rows { nx := fun _ S' => Fin3 S Q (.p .none) S', rt := Fin3 S Q } (env0 8 ds) S := by
  rintro _ S Q ⟨m, k, taps, pat, ss, rfl, hS, M, hpl, hsl, hv, hb, q⟩
  have hmp := M.pos
  have hk : prK k := by have := M.kd; unfold prK; omega
  have hRed := red_all (g := shG k taps pat) hk (fun q => shG_lin M pat q) hsl hv hb
  have hml : m < S.length := (List.getElem?_eq_some_iff.mp hS).1
  have hS0 : S.set m (some (.lst (rowsD k taps pat ss))) = S := by
    obtain ⟨g3, g4⟩ := List.getElem?_eq_some_iff.mp hS
    rw [← g4, List.set_getElem_self]
  unfold t_reduce_rows
  walk_at "rd"
  refine ⟨⟨by omega, by omega⟩, fun p e s => s = S.set m (some (.lst (rowsD k taps pat (redF k (shG k taps pat) ss p).1))) ++ [some (.lst (natL (redF k (shG k taps pat) ss p).2))] ∧ ∃ z4 z5 z6 z7 : Option D, e = [some (.loc m), some (.p (.int (pat.length : Nat))), some (.p (.int k)), some (.loc S.length), z4, z5, z6, z7], ⟨by show _ = S.set m (some (.lst (rowsD k taps pat ss))) ++ _; rw [hS0]; rfl, none, none, none, none, rfl⟩, fun _ _ _ _ => trivial, ?_, ?_⟩
  · rintro p d e s hd ⟨rfl, z4, z5, z6, z7, rfl⟩
    obtain ⟨hp, rfl⟩ := rng_get hd
    rw [Int.toNat_natCast] at hp
    have R := hRed p
    have R2 := hRed (p + 1)
    have hst : redF k (shG k taps pat) ss (p + 1) = stpF k (shG k taps pat p) p (redF k (shG k taps pat) ss p) := rfl
    rw [hst] at R2
    unfold t_reduce_rows_b1 sp_scaled sp_parted_by
    walk_at "rd"
    simp only [hst]
    generalize redF k (shG k taps pat) ss p = z at *
    obtain ⟨rs, pl⟩ := z
    have hl := R.len
    have hle := R.le
    dsimp only at hl hle
    have g1 : ∀ (T : S3) (x y : Option O3), T.length = S.length → m < T.length → (T.set m x ++ [y])[m]? = some x := fun T x y h h2 => by
      rw [List.getElem?_append_left (by rw [List.length_set]; exact h2), List.getElem?_set_self h2]
    have g2 : ∀ (x y : Option O3), (S.set m x ++ [y])[S.length]? = some y := fun x y => by
      rw [List.getElem?_append_right (by rw [List.length_set]; exact Nat.le_refl _), List.length_set, Nat.sub_self]
      rfl
    have hS' : ∀ (x y : Option O3), (S.set m x ++ [y])[m]? = some x := fun x y => g1 S x y rfl hml
    have s1 : ∀ (x y u : Option O3), (S.set m x ++ [y]).set m u = S.set m u ++ [y] := fun x y u => by
      rw [List.set_append_left _ _ (by rw [List.length_set]; exact hml), List.set_set]
    have s2 : ∀ (x y u : Option O3), (S.set m x ++ [y]).set S.length u = S.set m x ++ [u] := fun x y u => by
      rw [List.set_append_right _ _ (by rw [List.length_set]; exact Nat.le_refl _), List.length_set, Nat.sub_self]
      rfl
    simp only [g2, hS', natL_len, rowsD_len, hl]
    have rat : ∀ (rs : List (List Int)) t, rs.length = taps.length → t < taps.length → atI (rowsD k taps pat rs) ((t : Nat) : Int) = some (.tuple ((rowS k taps pat (rs.getD t [])).map PyData.int)) := fun rs t h ht => atI_nat (rowsD_at (by omega))
    have cat : ∀ s, atI ((rowS k taps pat s).map PyData.int) (0 + (p : Int)) = some (.int (shG k taps pat p s)) := fun s => by rw [Int.zero_add]; exact atI_nat (by rw [List.getElem?_map, row_at hp]; rfl)
    refine ⟨⟨by omega, by omega, by omega, by omega, by omega⟩, fun i acc s => s = S.set m (some (.lst (rowsD k taps pat rs))) ++ [some (.lst (natL pl))] ∧ acc = natL (((List.range i).map fun t => pl.length + t).filter fun a => decide (shG k taps pat p (rs.getD a []) ≠ 0)), ⟨rfl, rfl⟩, fun _ _ _ _ => trivial, ?_, ?_⟩
    · rintro i d acc s hd ⟨rfl, rfl⟩
      obtain ⟨hi, rfl⟩ := rng_get hd
      have hat := rat rs (pl.length + i) hl (by omega)
      rw [Int.natCast_add] at hat
      simp only [hS', hat]
      walk_at "rd"
      simp only [cat]
      refine ⟨⟨rfl, trivial⟩, ?_⟩
      rw [eqv_int, List.range_succ, List.map_append, List.filter_append, List.map_singleton, List.filter_cons, List.filter_nil]
      generalize shG k taps pat p (rs.getD (pl.length + i) []) = y
      by_cases h : y = 0
      · rw [if_neg (by simp [h]), if_neg (by simp [h]), List.append_nil]
      · rw [if_pos (by simp [h]), if_pos (by simp [h])]
        unfold natL
        rw [List.map_append]
        rfl
    · rintro acc s ⟨rfl, rfl⟩
      have hpv : (((List.range (rng ((pl.length : Nat) : Int) ((taps.length : Int) - (pl.length : Int)).toNat).length).map fun t => pl.length + t).filter fun a => decide (shG k taps pat p (rs.getD a []) ≠ 0)) = pivL (shG k taps pat p) rs pl.length := by
        rw [rng_len]
        unfold pivL
        rw [hl, show ((taps.length : Int) - (pl.length : Int)).toNat = taps.length - pl.length by omega]
      rw [hpv, natL_eqn]
      refine ⟨⟨natL_sh _, shaped_lints1 []⟩, ?_⟩
      unfold stpF at R2 ⊢
      dsimp only at R2 ⊢
      cases hpl2 : pivL (shG k taps pat p) rs pl.length with
      | nil =>
        rw [if_neg (by simp)]
        exact wk_self ⟨rfl, _, _, _, _, rfl⟩
      | cons a r =>
        rw [if_pos (by simp)]
        have ham : a ∈ pivL (shG k taps pat p) rs pl.length := by rw [hpl2]; exact List.mem_cons_self
        obtain ⟨ha1, ha2⟩ := List.mem_filter.mp ham
        obtain ⟨b, hb2, rfl⟩ := List.mem_map.mp ha1
        have hb2 := List.mem_range.mp hb2
        have hga := of_decide_eq_true ha2
        generalize ha : pl.length + b = a at *
        have htn : pl.length < taps.length := by omega
        have han : a < taps.length := by omega
        have hn0 : (natL (a :: r))[0]? = some (.int (a : Nat)) := rfl
        simp only [hn0, hS', rat rs _ hl han, rat rs _ hl htn]
        have ixr : ∀ (rs : List (List Int)) t, rs.length = taps.length → t < taps.length → ixN (rowsD k taps pat rs).length ((t : Nat) : Int) = some t := fun rs t h ht => ixN_natK (by rw [rowsD_len]; omega)
        have hsw : (rs.set pl.length (rs.getD a [])).set a (rs.getD pl.length []) = swpL rs pl.length a := rfl
        have l1 := swp_len rs pl.length a
        rw [hl] at l1
        have v1 := swp_vc hl R.vc htn han
        simp only [ixr rs _ hl htn, s1, hS', rowsD_setT, ixr (rs.set pl.length (rs.getD a [])) a (by rw [List.length_set]; exact hl) han, hsw, rat _ _ l1 htn, cat]
        have g0 : shG k taps pat p ((swpL rs pl.length a).getD pl.length []) ≠ 0 := by rw [swp_get (by omega) (by omega), if_pos rfl]; exact hga
        have G := (shG_lin M pat p).rg _ (v1 _ htn)
        refine ⟨k, _, rfl, hk, by omega, G.2, k, _, rowS k taps pat ((swpL rs pl.length a).getD pl.length []), rfl, hmp.1, hmp.2.1, rowS_ok M (v1 _ htn).sta, ?_⟩
        rw [row_sca M (v1 _ htn).sta]
        unfold tupI
        have htp : (swpL rs pl.length a).set pl.length (scaL k (invF k (shG k taps pat p ((swpL rs pl.length a).getD pl.length []))) ((swpL rs pl.length a).getD pl.length [])) = topL k (shG k taps pat p) (swpL rs pl.length a) pl.length := rfl
        simp only [hS', s1, rowsD_setT, ixr _ _ l1 htn, htp]
        have v2 := top_vc (g := shG k taps pat p) hmp.1 l1 v1 htn
        have l2 : (topL k (shG k taps pat p) (swpL rs pl.length a) pl.length).length = taps.length := by unfold topL; rw [List.length_set]; exact l1
        generalize topL k (shG k taps pat p) (swpL rs pl.length a) pl.length = u at *
        rw [rowsD_len, l2]
        refine ⟨⟨by omega, by omega⟩, fun i e s => s = S.set m (some (.lst (rowsD k taps pat (parL k (shG k taps pat p) u pl.length i)))) ++ [some (.lst (natL pl))] ∧ ∃ z6 : Option D, e = [some (.loc m), some (.p (.int (pat.length : Nat))), some (.p (.int k)), some (.loc S.length), some (.p (.int (0 + (p : Nat)))), some (.p (.int (pl.length : Nat))), z6, some (.p (.list (natL (a :: r))))], ⟨by rw [parL_zero], _, rfl⟩, fun _ _ _ _ => trivial, ?_, ?_⟩
        · rintro i d e s hd ⟨rfl, z6, rfl⟩
          obtain ⟨hi, rfl⟩ := rng_get hd
          rw [Int.toNat_natCast] at hi
          have lp : (parL k (shG k taps pat p) u pl.length i).length = taps.length := by rw [parL_len]; exact l2
          have gi : (parL k (shG k taps pat p) u pl.length i).getD i [] = u.getD i [] := by rw [parL_get (by omega), if_neg (by omega)]
          have gt : (parL k (shG k taps pat p) u pl.length i).getD pl.length [] = u.getD pl.length [] := by rw [parL_get (by omega), if_neg (by simp)]
          unfold t_reduce_rows_b2 sp_less_so_many
          walk_at "rd"
          rw [Int.zero_add]
          by_cases hit : i = pl.length
          · rw [if_neg (by omega)]
            rw [hit]
            exact wk_self ⟨by rw [parL_top], _, rfl⟩
          · rw [if_pos (by omega)]
            simp only [hS', rat _ _ lp hi, rat _ _ lp htn, gi, gt, cat]
            refine ⟨k, shG k taps pat p (u.getD i []), rowS k taps pat (u.getD i []), rowS k taps pat (u.getD pl.length []), rfl, hmp.1, hmp.2.1, rowS_ok M (v2 _ htn).sta, ?_⟩
            rw [row_les M (v2 i hi).sta (v2 _ htn).sta]
            simp only [ixr _ i lp hi, s1, rowsD_set]
            rw [parL_set (by omega) hit]
            exact wk_self ⟨rfl, _, rfl⟩
        · rintro e s ⟨rfl, z6, rfl⟩
          rw [rng_len, Int.toNat_natCast, ← l2, parL_all]
          walk_at "rd"
          simp only [g2, s2]
          refine ⟨by rw [natL_len]; omega, wk_self ⟨?_, _, _, _, _, rfl⟩⟩
          congr 3
          unfold natL
          rw [List.map_append, Int.zero_add]
          rfl
  · rintro e s ⟨rfl, z4, z5, z6, z7, rfl⟩
    unfold tFrz3
    walk_at "rd"
    rw [rng_len, Int.toNat_natCast]
    refine ⟨_, by rw [List.getElem?_append_right (by rw [List.length_set]; exact Nat.le_refl _), List.length_set, Nat.sub_self]; rfl, ?_⟩
    refine ⟨S.length, Nat.le_refl _, trivial, ?_⟩
    rw [List.take_set_of_le (Nat.le_refl _), List.take_append_of_le_length (by rw [List.length_set]; exact Nat.le_refl _), List.take_of_length_le (by rw [List.length_set]; exact Nat.le_refl _)]
    exact q
theorem ok_reduce_rows (T : Txt K mg base) : Ok3 P w K mg base 2 "reduce_rows" sp_reduce_rows := by
  obtain ⟨f, fd, F, hm, hb⟩ := T.f_reduce_rows
  exact Ok3.mk' F hm hb sc_reduce_rows (fun ds S Q h => by simp only [sp_reduce_rows] at h; first | (obtain ⟨rfl, _⟩ := h; rfl) | (obtain ⟨_, rfl, _⟩ := h; rfl) | (obtain ⟨_, _, rfl, _⟩ := h; rfl) | (obtain ⟨_, _, _, rfl, _⟩ := h; rfl) | (obtain ⟨_, _, _, _, rfl, _⟩ := h; rfl) | (obtain ⟨_, _, _, _, _, rfl, _⟩ := h; rfl) | (obtain ⟨_, _, _, _, _, _, rfl, _⟩ := h; rfl) | (obtain ⟨_, _, _, _, _, _, _, rfl, _⟩ := h; rfl) | (obtain ⟨_, _, _, _, _, _, _, _, rfl, _⟩ := h; rfl) | (obtain ⟨_, _, _, _, _, _, _, _, _, rfl, _⟩ := h; rfl) | (obtain ⟨_, _, _, _, _, _, _, _, _, _, rfl, _⟩ := h; rfl) | exact h.2) (fun cdv A outer s H E hr => dv_reduce_rows T hr) rd_reduce_rows
def sp_judged : Sp3 := fun ds S Q => ∃ (k : Int) (taps : List Int) (pat : List Nat), ds = [.p (mach k taps), .p (tupI (patI pat))] ∧ Mach k taps ∧ pat.length ≤ 16 ∧ Q (.p (judD k taps pat)) S
def t_judged_b2 : TS3 := tPut3 (tOp3 rIx3 (tVar3 9) (tOp3 rAdd3 (tVar3 3) (tVar3 7))) (tVar3 8) (tVar3 10)
def t_judged_b1 : TS3 := tSeq3 (tSet3 8 (tOwn (tRepN3 (tLst3 (tCons3 (tC3 (.int 0)) (tNil3))) (tVar3 3)))) (tSeq3 (tFor3 (tZipI3 (tCons3 (tVar3 4) (tCons3 (tVar3 5) (tNil3)))) (.tup (.cons (.nm 9) (.cons (.nm 10) (.nil)))) (t_judged_b2)) (tDrop3 (tApp3 (tVar3 6) (tCB3 (rTupOf3) (tCons3 (tVar3 8) (tNil3))))))
def t_judged : TS3 := tSeq3 (tPr3 2 3 (tCons3 (tOp3 rIx3 (tVar3 0) (tC3 (.int 0))) (tCons3 (tCB3 (rLenA3) (tCons3 (tVar3 1) (tNil3))) (tNil3)))) (tSeq3 (tSet3 4 (tOwn (tLc3 (tSeqI3 (tCB3 sp_units (tCons3 (tVar3 0) (tNil3)))) (.nm 11) (tYes3) (tOp3 rAdd3 (tCB3 sp_shown (tCons3 (tVar3 0) (tCons3 (tVar3 1) (tCons3 (tVar3 11) (tNil3))))) (tVar3 11)) [11]))) (tSeq3 (tSet3 5 (tCB3 sp_reduce_rows (tCons3 (tVar3 4) (tCons3 (tVar3 3) (tCons3 (tVar3 2) (tNil3)))))) (tSeq3 (tIfS3 (tTest3 (tOp3 rLtD3 (tCB3 (rLenA3) (tCons3 (tVar3 5) (tNil3))) (tCB3 (rLenA3) (tCons3 (tVar3 4) (tNil3))))) (tRet3 (tTup3 (tCons3 (tC3 (.str (PySem.Str.ofString "blind"))) (tCons3 (tSl3 (tOp3 rIx3 (tVar3 4) (tCB3 (rLenA3) (tCons3 (tVar3 5) (tNil3)))) (tPart3 (tVar3 3)) (tNoPart3)) (tNil3))))) (tNext3)) (tSeq3 (tSet3 6 (tOwn (tLst3 (tNil3)))) (tSeq3 (tFor3 (tRng1 (tCons3 (tCB3 (rLenA3) (tCons3 (tVar3 4) (tNil3))) (tNil3))) (.nm 7) (t_judged_b1)) (tRet3 (tTup3 (tCons3 (tC3 (.str (PySem.Str.ofString "sees"))) (tCons3 (tCB3 (rTupOf3) (tCons3 (tVar3 6) (tNil3))) (tNil3))))))))))
theorem dv_judged (T : Txt K mg base) {f : Addr} {cdv : Value} {A : Around} {outer : List Env} {s : Shared} {H : Hp} {E : XK} (hr : Room 3 (A.deeper (envOfC "judged" (defScope s_judged) s.heap.objs.size f cdv))) : QSs (cxOf CX0 P w K mg base nm_judged "judged" (defScope s_judged) f cdv A outer s H E).nox (defBody s_judged) t_judged :=
  qss_cons (qs_par (i := 2) (j := 3) rfl sc_judged.nd rfl rfl (by decide) rfl rfl (qa_cons (qe_ix iq_seq (qv 0) (qe_int)) (qa_cons (qe_cb cq_lenA (by rfl) T.b_len (by decide +kernel) (qa_cons (qv 1) (qa_nil))) (qa_nil))) (by rfl)) (qss_cons (qs_setLcO (i := 4) (own := [("unit", 11)]) rfl sc_judged.nd rfl rfl (sw_true rfl rfl rfl (by decide +kernel)) (qi_seq (qe_call (ok_units T) (hr.mono (by decide)) (by rfl) (qa_cons (qv 0) (qa_nil)))) (blkOk_by (own := [("unit", 11)]) (N := nm_judged) (sc := defScope s_judged) (by decide +kernel)) (fun _ _ _ _ _ => qb_nm (i := 11) sc_judged.nd rfl (by first | exact .inl rfl | exact .inr rfl)) (fun _ _ _ _ _ => qts_nil) (fun _ _ _ _ _ => qe_op oq_add (qe_call (ok_shown T) (hr.mono (by decide)) (by rfl) (qa_cons (qv 0) (qa_cons (qv 1) (qa_cons (qv 11) (qa_nil))))) (qv 11))) (qss_cons (qs_set (i := 5) sc_judged.nd rfl (by first | exact .inl rfl | exact .inr rfl) (qe_call (ok_reduce_rows T) (hr.mono (by decide)) (by rfl) (qa_cons (qv 4) (qa_cons (qv 3) (qa_cons (qv 2) (qa_nil)))))) (qss_cons (qs_if (qt_cmp (oq_ltD hr.units) (qe_cb cq_lenA (by rfl) T.b_len (by decide +kernel) (qa_cons (qv 5) (qa_nil))) (qe_cb cq_lenA (by rfl) T.b_len (by decide +kernel) (qa_cons (qv 4) (qa_nil)))) (qss_one (qs_ret (qe_tup (qa_cons (qe_str) (qa_cons (qe_slice (qe_ix iq_seq (qv 4) (qe_cb cq_lenA (by rfl) T.b_len (by decide +kernel) (qa_cons (qv 5) (qa_nil)))) (qo_some (qv 3)) (qo_none)) (qa_nil)))))) (qss_nil)) (qss_cons (qs_set (i := 6) sc_judged.nd rfl (by first | exact .inl rfl | exact .inr rfl) (qn_own (qn_lst (qa_nil)))) (qss_cons (qs_for PassesOwn.never rfl (qi_range1 (by rfl) T.b_range (qa_cons (qe_cb cq_lenA (by rfl) T.b_len (by decide +kernel) (qa_cons (qv 4) (qa_nil))) (qa_nil))) (qb_nm (i := 7) sc_judged.nd rfl (by first | exact .inl rfl | exact .inr rfl)) (qss_cons (qs_set (i := 8) sc_judged.nd rfl (by first | exact .inl rfl | exact .inr rfl) (qn_own (qn_rep (qn_lst (qa_cons (qe_int) (qa_nil))) (qv 3)))) (qss_cons (qs_for PassesOwn.never rfl (qi_zip rfl (by rfl) T.b_zip (qa_cons (qv 4) (qa_cons (qv 5) (qa_nil)))) (qb_tup rfl (qbs_cons (qb_nm (i := 9) sc_judged.nd rfl (by first | exact .inl rfl | exact .inr rfl)) (qbs_cons (qb_nm (i := 10) sc_judged.nd rfl (by first | exact .inl rfl | exact .inr rfl)) (qbs_nil)))) (qss_one (qs_put (qe_ix iq_seq (qv 9) (qe_op oq_add (qv 3) (qv 7))) (qv 8) (qv 10)))) (qss_one (qs_expr (qe_append (qv 6) (qe_ty cq_tuple (by rfl) T.b_tuple (by decide +kernel) (qa_cons (qv 8) (qa_nil))))))))) (qss_one (qs_ret (qe_tup (qa_cons (qe_str) (qa_cons (qe_ty cq_tuple (by rfl) T.b_tuple (by decide +kernel) (qa_cons (qv 6) (qa_nil))) (qa_nil)))))))))))
theorem rd_judged : ∀ ds S Q, sp_judged ds S Q → t_judged { nx := fun _ S' => Fin3 S Q (.p .none) S', rt := Fin3 S Q } (env0 12 ds) S := by
  rintro _ S Q ⟨k, taps, pat, rfl, M, hpl, q⟩
  have hmp := M.pos
  unfold t_judged sp_units sp_shown sp_reduce_rows
  unfold mach
  walk_at "rd"
  have hpi : (patI pat).length = pat.length := by unfold patI; rw [List.length_map]
  rw [show tupI (patI pat) = .tuple ((patI pat).map PyData.int) from rfl]
  walk_at "rd"
  rw [hpi]
  have g : ∀ x : Option O3, (S ++ [x])[S.length]? = some x := fun x => by simp
  have gs : ∀ x y : Option O3, (S ++ [x]).set S.length y = S ++ [y] := fun x y => by simp
  refine ⟨k, taps, rfl, M, fun i acc s => s = S ∧ acc = rowsD k taps pat ((uniS taps.length).take i), ⟨rfl, rfl⟩, fun _ _ _ _ => trivial, ?_, ?_⟩
  · rintro i d acc s hd ⟨rfl, rfl⟩
    rw [List.getElem?_map] at hd
    obtain ⟨j, hj, rfl⟩ := Option.map_eq_some_iff.mp hd
    obtain ⟨hj1, hj2⟩ := List.getElem?_eq_some_iff.mp hj
    rw [List.getElem_range] at hj2
    subst hj2
    rw [List.length_range] at hj1
    refine ⟨k, taps, unitL taps.length i, pat, rfl, M, unit_sta M i, ?_⟩
    have hu : (uniS taps.length)[i]? = some (unitL taps.length i) := by unfold uniS; rw [List.getElem?_map, List.getElem?_range hj1]; rfl
    have hul := unitL_len taps.length i
    unfold tupI
    walk_at "rd"
    refine ⟨by rw [seen_len, hul]; omega, ?_⟩
    rw [take_one hu]
    unfold rowsD rowS tupI
    rw [List.map_append, List.map_singleton, List.map_append]
  · rintro acc s ⟨rfl, rfl⟩
    rw [List.length_range, List.take_of_length_le (by rw [uniS_len]; exact Nat.le_refl _)]
    have R := jud_red M pat
    refine ⟨s.length, k, taps, pat, uniS taps.length, rfl, g _, M, hpl, uniS_len _, uni_vc M, uni_bas k _, ?_⟩
    unfold judD at q
    dsimp only at q
    generalize redF k (shG k taps pat) (uniS taps.length) pat.length = z at *
    have hzl := R.len
    have hzp := R.le
    simp only [gs, g]
    walk_at "rd"
    simp only [natL_len, rowsD_len, hzl]
    by_cases hlt : z.2.length < taps.length
    · rw [if_pos (by omega)]
      rw [if_pos hlt] at q
      have hat : atI (rowsD k taps pat z.1) ((z.2.length : Nat) : Int) = some (.tuple ((rowS k taps pat (z.1.getD z.2.length [])).map PyData.int)) := atI_nat (rowsD_at (by omega))
      rw [hat]
      dsimp only
      rw [cut3_from, ← List.map_drop, rowS_drop]
      exact fin_app q
    · rw [if_neg (by omega)]
      rw [if_neg hlt] at q
      generalize hB : s ++ [some (O3.lst (rowsD k taps pat z.1))] = B at *
      have hBl : B.length = s.length + 1 := by rw [← hB]; simp
      have gB : ∀ T : S3, (B ++ T)[s.length]? = some (some (.lst (rowsD k taps pat z.1))) := fun T => by rw [List.getElem?_append_left (by omega), ← hB]; simp
      have hPl : (s ++ [some (O3.lst (rowsD k taps pat (uniS taps.length)))]).length = B.length := by rw [← hB]; simp
      rw [hPl]
      simp only [gB, rowsD_len, hzl]
      have gP : ∀ (x : Option O3) (T : S3), (B ++ [x] ++ T)[B.length]? = some x := fun x T => by rw [List.append_assoc, List.getElem?_append_right (Nat.le_refl _)]; simp
      refine ⟨⟨by omega, by omega⟩, fun a e s' => s' = B ++ [some (.lst ((List.range a).map fun a => tupI (facL z pat.length a)))] ∧ ∃ z7 z8 z9 z10 z11 : Option D, e = [some (.p (.tuple [.int k, tupI taps])), some (.p (.tuple ((patI pat).map PyData.int))), some (.p (.int k)), some (.p (.int (pat.length : Nat))), some (.loc s.length), some (.p (.list (natL z.2))), some (.loc B.length), z7, z8, z9, z10, z11], ⟨rfl, none, none, none, none, none, rfl⟩, fun _ _ _ _ => trivial, ?_, ?_⟩
      · rintro a d e s' hd ⟨rfl, z7, z8, z9, z10, z11, rfl⟩
        obtain ⟨ha, rfl⟩ := rng_get hd
        rw [Int.toNat_natCast] at ha
        unfold t_judged_b1
        walk_at "rd"
        have hr0 : rep3 [PyData.int 0] ((pat.length : Nat) : Int) = (facT z pat.length a 0).map PyData.int := by
          rw [rep3_single, Int.toNat_natCast]
          unfold facT
          rw [List.take_zero, List.foldl_nil, List.map_replicate]
        rw [hr0]
        have hln : (B ++ [some (O3.lst ((List.range a).map fun a => tupI (facL z pat.length a)))]).length = B.length + 1 := by simp
        rw [hln]
        have gB2 : ∀ (x y : Option O3), (B ++ [x] ++ [y])[s.length]? = some (some (.lst (rowsD k taps pat z.1))) := fun x y => by rw [List.append_assoc]; exact gB _
        have gF : ∀ (x y : Option O3), (B ++ [x] ++ [y])[B.length + 1]? = some y := fun x y => by rw [List.append_assoc, List.getElem?_append_right (by omega)]; simp
        have sF : ∀ (x y u : Option O3), (B ++ [x] ++ [y]).set (B.length + 1) u = B ++ [x] ++ [u] := fun x y u => by rw [List.append_assoc, List.set_append_right _ _ (by omega)]; simp
        have sP : ∀ (x y u : Option O3), (B ++ [x] ++ [y]).set B.length u = B ++ [u] ++ [y] := fun x y u => by rw [List.append_assoc, List.set_append_right _ _ (Nat.le_refl _)]; simp
        simp only [gB2]
        refine ⟨⟨by omega, by omega, by simp; omega⟩, fun i e s' => s' = B ++ [some (.lst ((List.range a).map fun a => tupI (facL z pat.length a)))] ++ [some (.lst ((facT z pat.length a i).map PyData.int))] ∧ ∃ z9 z10 z11 : Option D, e = [some (.p (.tuple [.int k, tupI taps])), some (.p (.tuple ((patI pat).map PyData.int))), some (.p (.int k)), some (.p (.int (pat.length : Nat))), some (.loc s.length), some (.p (.list (natL z.2))), some (.loc B.length), some (.p (.int (0 + (a : Nat)))), some (.loc (B.length + 1)), z9, z10, z11], ⟨rfl, _, _, _, rfl⟩, ?_, ?_, ?_⟩
        · rintro i e s' ⟨rfl, z9, z10, z11, rfl⟩
          simp only [gB2]
          exact ⟨trivial, trivial⟩
        · rintro i x e s' hx ⟨rfl, z9, z10, z11, rfl⟩
          obtain ⟨x1, y1, h1, h2, rfl⟩ := zip3_get hx
          unfold rowsD at h1
          unfold natL at h2
          rw [List.getElem?_map] at h1 h2
          obtain ⟨r, hr, rfl⟩ := Option.map_eq_some_iff.mp h1
          obtain ⟨pp, hpp, rfl⟩ := Option.map_eq_some_iff.mp h2
          have hzi : (z.1.zip z.2)[i]? = some (r, pp) := List.getElem?_zip_eq_some.mpr ⟨hr, hpp⟩
          have hri := (List.getElem?_eq_some_iff.mp hr).1
          have hrv : Vc k taps.length r := by
            have := R.vc i (by omega)
            rw [List.getD_eq_getElem?_getD, hr] at this
            exact this
          have hpl2 := R.lt pp (List.mem_of_getElem? hpp)
          unfold t_judged_b2 tupI
          walk_at "rd"
          have hat : atI ((rowS k taps pat r).map PyData.int) ((pat.length : Int) + (0 + (a : Int))) = some (.int (r.getD a 0)) := by
            rw [Int.zero_add, ← Int.natCast_add]
            exact atI_nat (by rw [List.getElem?_map, rowS_at hrv ha]; rfl)
          rw [hat]
          have ixf : ixN ((facT z pat.length a i).map PyData.int).length ((pp : Nat) : Int) = some pp := ixN_natK (by rw [List.length_map, facT_len]; exact hpl2)
          simp only [gF, sF, ixf]
          refine wk_self ⟨?_, _, _, _, rfl⟩
          rw [facT_one hzi, List.map_set]
        · rintro e s' ⟨rfl, z9, z10, z11, rfl⟩
          rw [zip3_len, rowsD_len, natL_len, ← List.length_zip, facL_T]
          walk_at "rd"
          have gP2 : ∀ (x y : Option O3), (B ++ [x] ++ [y])[B.length]? = some x := fun x y => gP x [y]
          simp only [gP2, gF, sP]
          refine ⟨by simp; omega, .inr ⟨B.length + 1, [some (.p (.tuple [.int k, tupI taps])), some (.p (.tuple ((patI pat).map PyData.int))), some (.p (.int k)), some (.p (.int (pat.length : Nat))), some (.loc s.length), some (.p (.list (natL z.2))), some (.loc B.length), some (.p (.int (0 + (a : Nat)))), none, none, none, none], by simp, ?_, ?_⟩⟩
          · exact .keep (.keep (.keep (.keep (.loc (by omega) (.keep (.loc (by omega) (.keep (.drop (.drop (.drop (.drop .nil)))))))))))
          · refine ⟨?_, _, _, _, _, _, rfl⟩
            rw [List.take_append_of_le_length (by simp), List.take_of_length_le (by simp), List.range_succ, List.map_append]
            rfl
      · rintro e s' ⟨rfl, z7, z8, z9, z10, z11, rfl⟩
        rw [rng_len, Int.toNat_natCast]
        walk_at "rd"
        have g0 : (B ++ [some (O3.lst ((List.range taps.length).map fun a => tupI (facL z pat.length a)))])[B.length]? = some (some (O3.lst ((List.range taps.length).map fun a => tupI (facL z pat.length a)))) := by simp
        simp only [g0]
        refine fin_of ?_ q
        rw [← hB]
        simp
theorem ok_judged (T : Txt K mg base) : Ok3 P w K mg base 4 "judged" sp_judged := by
  obtain ⟨f, fd, F, hm, hb⟩ := T.f_judged
  exact Ok3.mk' F hm hb sc_judged (fun ds S Q h => by simp only [sp_judged] at h; first | (obtain ⟨rfl, _⟩ := h; rfl) | (obtain ⟨_, rfl, _⟩ := h; rfl) | (obtain ⟨_, _, rfl, _⟩ := h; rfl) | (obtain ⟨_, _, _, rfl, _⟩ := h; rfl) | (obtain ⟨_, _, _, _, rfl, _⟩ := h; rfl) | (obtain ⟨_, _, _, _, _, rfl, _⟩ := h; rfl) | (obtain ⟨_, _, _, _, _, _, rfl, _⟩ := h; rfl) | (obtain ⟨_, _, _, _, _, _, _, rfl, _⟩ := h; rfl) | (obtain ⟨_, _, _, _, _, _, _, _, rfl, _⟩ := h; rfl) | (obtain ⟨_, _, _, _, _, _, _, _, _, rfl, _⟩ := h; rfl) | (obtain ⟨_, _, _, _, _, _, _, _, _, _, rfl, _⟩ := h; rfl) | exact h.2) (fun cdv A outer s H E hr => dv_judged T hr) rd_judged
def sp_summed : Sp3 := fun ds S Q => ∃ (k : Int) (fs : List (List Int)) (sg : List Int), ds = [.p (.tuple (fs.map tupI)), .p (tupI sg), .p (.int k)] ∧ 0 < k ∧ k ≤ 7 ∧ (∀ x ∈ sg, 0 ≤ x ∧ x < k) ∧ Q (.p (tupI (fs.map fun f => dotL f sg % k))) S
def t_summed : TS3 := tRet3 (tCB3 (rTupOf3) (tCons3 (tPure (tLc3 (tSeqI3 (tVar3 0)) (.nm 3) (tYes3) (tOp3 rMod3 (tCB3 (rSumA3) (tCons3 (tPure (tLc3 (tZipI3 (tCons3 (tVar3 3) (tCons3 (tVar3 1) (tNil3)))) (.tup (.cons (.nm 4) (.cons (.nm 5) (.nil)))) (tYes3) (tOp3 rMulT3 (tVar3 4) (tVar3 5)) [4, 5])) (tNil3))) (tVar3 2)) [3])) (tNil3)))
theorem dv_summed (T : Txt K mg base) {f : Addr} {cdv : Value} {A : Around} {outer : List Env} {s : Shared} {H : Hp} {E : XK} (hr : Room 0 (A.deeper (envOfC "summed" (defScope s_summed) s.heap.objs.size f cdv))) : QSs (cxOf CX0 P w K mg base nm_summed "summed" (defScope s_summed) f cdv A outer s H E).nox (defBody s_summed) t_summed :=
  qss_one (qs_ret (qe_ty cq_tuple (by rfl) T.b_tuple (by decide +kernel) (qa_cons (qn_pure (qn_lc (own := [("factors", 3)]) rfl sc_summed.nd (qi_seq (qv 0)) (blkOk_by (own := [("factors", 3)]) (N := nm_summed) (sc := defScope s_summed) (by decide +kernel)) (fun _ _ _ _ _ => qb_nm (i := 3) sc_summed.nd rfl (by first | exact .inl rfl | exact .inr rfl)) (fun _ _ _ _ _ => qts_nil) (fun _ _ _ _ _ => qe_op oq_mod (qe_cb (cq_sumA rfl) (by rfl) T.b_sum (by decide +kernel) (qa_cons (qn_pure (qn_lc (own := [("factor", 4), ("sign", 5)]) rfl sc_summed.nd (qi_zip rfl (by rfl) T.b_zip (qa_cons (qv 3) (qa_cons (qv 1) (qa_nil)))) (by refine blkOk_by (own := [("factor", 4), ("sign", 5)]) ?_; walk_at "bd") (fun _ _ _ _ _ => qb_tup rfl (qbs_cons (qb_nm (i := 4) sc_summed.nd rfl (by first | exact .inl rfl | exact .inr rfl)) (qbs_cons (qb_nm (i := 5) sc_summed.nd rfl (by first | exact .inl rfl | exact .inr rfl)) (qbs_nil)))) (fun _ _ _ _ _ => qts_nil) (fun _ _ _ _ _ => qe_op oq_mulT (qv 4) (qv 5)))) (qa_nil))) (qv 2)))) (qa_nil))))
theorem rd_summed : ∀ ds S Q, sp_summed ds S Q → t_summed { nx := fun _ S' => Fin3 S Q (.p .none) S', rt := Fin3 S Q } (env0 6 ds) S := by
  rintro _ S Q ⟨k, fs, sg, rfl, k0, k1, hsg, q⟩
  unfold t_summed
  rw [show tupI sg = .tuple (sg.map PyData.int) from rfl]
  walk_at "rd"
  refine ⟨fun i acc s => s = S ∧ acc = ((fs.take i).map fun f => dotL f sg % k).map PyData.int, ⟨rfl, rfl⟩, fun _ _ _ _ => trivial, ?_, ?_⟩
  · rintro i d acc s hd ⟨rfl, rfl⟩
    rw [List.getElem?_map] at hd
    obtain ⟨f, hf, rfl⟩ := Option.map_eq_some_iff.mp hd
    unfold tupI
    walk_at "rd"
    refine ⟨fun j acc s' => s' = s ∧ acc = (((f.zip sg).take j).map fun p => p.1 * p.2).map PyData.int, ⟨rfl, rfl⟩, fun _ _ _ _ => trivial, ?_, ?_⟩
    · rintro j d acc s' hd2 ⟨rfl, rfl⟩
      obtain ⟨a, b, h1, h2, rfl⟩ := zip3_get hd2
      rw [List.getElem?_map] at h1 h2
      obtain ⟨x, hx, rfl⟩ := Option.map_eq_some_iff.mp h1
      obtain ⟨y, hy, rfl⟩ := Option.map_eq_some_iff.mp h2
      have hym := hsg y (List.mem_of_getElem? hy)
      walk_at "rd"
      refine ⟨.inr (.inl ⟨by omega, by omega⟩), ?_⟩
      rw [take_one (show (f.zip sg)[j]? = some (x, y) from List.getElem?_zip_eq_some.mpr ⟨hx, hy⟩)]
      simp
    · rintro acc s' ⟨rfl, rfl⟩
      have hl : (zip3 (f.map PyData.int) (sg.map PyData.int)).length = (f.zip sg).length := by rw [zip3_len, List.length_zip, List.length_map, List.length_map]
      rw [hl, List.take_length, allP_ints]
      walk_at "rd"
      refine ⟨k0, ?_⟩
      rw [take_one hf, List.map_append, List.map_append]
      rfl
  · rintro acc s ⟨rfl, rfl⟩
    rw [List.take_length]
    exact fin_p q
theorem ok_summed (T : Txt K mg base) : Ok3 P w K mg base 1 "summed" sp_summed := by
  obtain ⟨f, fd, F, hm, hb⟩ := T.f_summed
  exact Ok3.mk' F hm hb sc_summed (fun ds S Q h => by simp only [sp_summed] at h; first | (obtain ⟨rfl, _⟩ := h; rfl) | (obtain ⟨_, rfl, _⟩ := h; rfl) | (obtain ⟨_, _, rfl, _⟩ := h; rfl) | (obtain ⟨_, _, _, rfl, _⟩ := h; rfl) | (obtain ⟨_, _, _, _, rfl, _⟩ := h; rfl) | (obtain ⟨_, _, _, _, _, rfl, _⟩ := h; rfl) | (obtain ⟨_, _, _, _, _, _, rfl, _⟩ := h; rfl) | (obtain ⟨_, _, _, _, _, _, _, rfl, _⟩ := h; rfl) | (obtain ⟨_, _, _, _, _, _, _, _, rfl, _⟩ := h; rfl) | (obtain ⟨_, _, _, _, _, _, _, _, _, rfl, _⟩ := h; rfl) | (obtain ⟨_, _, _, _, _, _, _, _, _, _, rfl, _⟩ := h; rfl) | exact h.2) (fun cdv A outer s H E hr => dv_summed T hr) rd_summed
def sp_shows_sees : Sp3 := fun ds S Q => ∃ (k : Int) (taps : List Int) (pat : List Nat) (fs : List (List Int)), ds = [.p (mach k taps), .p (tupI (patI pat)), .p (.tuple (fs.map tupI))] ∧ Mach k taps ∧ pat.length ≤ 16 ∧ fs.length = taps.length ∧ (∀ f ∈ fs, f.length = pat.length ∧ ∀ x ∈ f, 0 ≤ x ∧ x < k) ∧ ∀ b : Bool, (b = true → ∀ t, t < taps.length → (fs.map fun f => dotL f (seen k taps pat (unitL taps.length t)) % k) = unitL taps.length t) → Q (.p (.bool b)) S
def t_shows_sees_b1 : TS3 := tIfS3 (tOr3 (tNot3 (tTest3 (tCB3 sp_are_numbers (tCons3 (tVar3 5) (tCons3 (tVar3 3) (tNil3)))))) (tTest3 (tOp3 rNeS3 (tCB3 (rLenA3) (tCons3 (tVar3 5) (tNil3))) (tCB3 (rLenA3) (tCons3 (tVar3 1) (tNil3)))))) (tRet3 (tC3 (.bool false))) (tNext3)
def t_shows_sees : TS3 := tSeq3 (tAsgT3 (tVar3 0) (.tup (.cons (.nm 3) (.cons (.nm 4) (.nil))))) (tSeq3 (tIfS3 (tOr3 (tNot3 (tTest3 (tIsi3 "tuple" (tVar3 2)))) (tTest3 (tOp3 rNeS3 (tCB3 (rLenA3) (tCons3 (tVar3 2) (tNil3))) (tCB3 (rLenA3) (tCons3 (tVar3 4) (tNil3)))))) (tRet3 (tC3 (.bool false))) (tNext3)) (tSeq3 (tFor3 (tSeqI3 (tVar3 2)) (.nm 5) (t_shows_sees_b1)) (tRet3 (tCB3 (rAll3) (tCons3 (tPure (tLc3 (tSeqI3 (tCB3 sp_units (tCons3 (tVar3 0) (tNil3)))) (.nm 6) (tYes3) (tOp3 rEqS3 (tCB3 sp_summed (tCons3 (tVar3 2) (tCons3 (tCB3 sp_shown (tCons3 (tVar3 0) (tCons3 (tVar3 1) (tCons3 (tVar3 6) (tNil3))))) (tCons3 (tVar3 3) (tNil3))))) (tVar3 6)) [6])) (tNil3))))))
theorem dv_shows_sees (T : Txt K mg base) {f : Addr} {cdv : Value} {A : Around} {outer : List Env} {s : Shared} {H : Hp} {E : XK} (hr : Room 3 (A.deeper (envOfC "shows_sees" (defScope s_shows_sees) s.heap.objs.size f cdv))) : QSs (cxOf CX0 P w K mg base nm_shows_sees "shows_sees" (defScope s_shows_sees) f cdv A outer s H E).nox (defBody s_shows_sees) t_shows_sees :=
  qss_cons (qs_asgT (qv 0) (qb_tup rfl (qbs_cons (qb_nm (i := 3) sc_shows_sees.nd rfl (by first | exact .inl rfl | exact .inr rfl)) (qbs_cons (qb_nm (i := 4) sc_shows_sees.nd rfl (by first | exact .inl rfl | exact .inr rfl)) (qbs_nil))))) (qss_cons (qs_if (qt_w (qw_or (qt_not (qt_val (qe_isi (T := "tuple") (by decide +kernel) (by rfl) (T.b_isinstance) (by rfl) (T.b_tuple) (by decide +kernel) (by decide) (by decide) (qv 2)))) (qw_or1 (qt_cmp (oq_neS hr.units) (qe_cb cq_lenA (by rfl) T.b_len (by decide +kernel) (qa_cons (qv 2) (qa_nil))) (qe_cb cq_lenA (by rfl) T.b_len (by decide +kernel) (qa_cons (qv 4) (qa_nil))))))) (qss_one (qs_ret (qe_bl))) (qss_nil)) (qss_cons (qs_for PassesOwn.never rfl (qi_seq (qv 2)) (qb_nm (i := 5) sc_shows_sees.nd rfl (by first | exact .inl rfl | exact .inr rfl)) (qss_one (qs_if (qt_w (qw_or (qt_not (qt_val (qe_call (ok_are_numbers T) (hr.mono (by decide)) (by rfl) (qa_cons (qv 5) (qa_cons (qv 3) (qa_nil)))))) (qw_or1 (qt_cmp (oq_neS hr.units) (qe_cb cq_lenA (by rfl) T.b_len (by decide +kernel) (qa_cons (qv 5) (qa_nil))) (qe_cb cq_lenA (by rfl) T.b_len (by decide +kernel) (qa_cons (qv 1) (qa_nil))))))) (qss_one (qs_ret (qe_bl))) (qss_nil)))) (qss_one (qs_ret (qe_cb (cq_all rfl) (by rfl) T.b_all (by decide +kernel) (qa_cons (qn_pure (qn_lc (own := [("unit", 6)]) rfl sc_shows_sees.nd (qi_seq (qe_call (ok_units T) (hr.mono (by decide)) (by rfl) (qa_cons (qv 0) (qa_nil)))) (blkOk_by (own := [("unit", 6)]) (N := nm_shows_sees) (sc := defScope s_shows_sees) (by decide +kernel)) (fun _ _ _ _ _ => qb_nm (i := 6) sc_shows_sees.nd rfl (by first | exact .inl rfl | exact .inr rfl)) (fun _ _ _ _ _ => qts_nil) (fun _ _ _ _ _ => qe_cmp (oq_eqS hr.units) (qe_call (ok_summed T) (hr.mono (by decide)) (by rfl) (qa_cons (qv 2) (qa_cons (qe_call (ok_shown T) (hr.mono (by decide)) (by rfl) (qa_cons (qv 0) (qa_cons (qv 1) (qa_cons (qv 6) (qa_nil))))) (qa_cons (qv 3) (qa_nil))))) (qv 6)))) (qa_nil)))))))
theorem rd_shows_sees : ∀ ds S Q, sp_shows_sees ds S Q → t_shows_sees { nx := fun _ S' => Fin3 S Q (.p .none) S', rt := Fin3 S Q } (env0 7 ds) S := by
  rintro _ S Q ⟨k, taps, pat, fs, rfl, M, hpl, hfl, hf, q⟩
  have hmp := M.pos
  unfold t_shows_sees mach
  walk_at "rd"
  rw [show tupI taps = .tuple (taps.map PyData.int) from rfl]
  walk_at "rd"
  have hpi : (patI pat).length = pat.length := by unfold patI; rw [List.length_map]
  rw [hfl, if_neg (by simp)]
  refine ⟨fun i e s => s = S ∧ ∃ z5 z6 : Option D, e = [some (.p (.tuple [.int k, .tuple (taps.map PyData.int)])), some (.p (tupI (patI pat))), some (.p (.tuple (fs.map tupI))), some (.p (.int k)), some (.p (.tuple (taps.map PyData.int))), z5, z6], ⟨rfl, none, none, rfl⟩, fun _ _ _ _ => trivial, ?_, ?_⟩
  · rintro i d e s hd ⟨rfl, z5, z6, rfl⟩
    rw [List.getElem?_map] at hd
    obtain ⟨f, hfi, rfl⟩ := Option.map_eq_some_iff.mp hd
    obtain ⟨h1, h2⟩ := hf f (List.mem_of_getElem? hfi)
    unfold t_shows_sees_b1 sp_are_numbers
    walk_at "rd"
    refine ⟨k, f, rfl, h2, ?_⟩
    unfold tupI
    walk_at "rd"
    rw [h1, hpi, if_neg (by simp)]
    exact wk_self ⟨rfl, _, _, rfl⟩
  · rintro e s ⟨rfl, z5, z6, rfl⟩
    unfold sp_units sp_summed sp_shown mach
    walk_at "rd"
    refine ⟨k, taps, rfl, M, fun i acc s' => s' = s ∧ ∃ bs : List Bool, acc = bs.map PyData.bool ∧ bs.length = i ∧ ∀ t, bs[t]? = some true → (fs.map fun f => dotL f (seen k taps pat (unitL taps.length t)) % k) = unitL taps.length t, ⟨rfl, [], rfl, rfl, fun t h => by simp at h⟩, fun _ _ _ _ => trivial, ?_, ?_⟩
    · rintro i d acc s' hd ⟨rfl, bs, rfl, hbl, hbs⟩
      rw [List.getElem?_map] at hd
      obtain ⟨j, hj, rfl⟩ := Option.map_eq_some_iff.mp hd
      have hij : j = i := by
        obtain ⟨hj1, hj2⟩ := List.getElem?_eq_some_iff.mp hj
        rw [List.getElem_range] at hj2
        exact hj2.symm
      subst hij
      have hu := unit_sta M j
      refine ⟨k, taps, unitL taps.length j, pat, rfl, M, hu, k, fs, seen k taps pat (unitL taps.length j), rfl, hmp.1, hmp.2.1, seen_ok M hu, ?_⟩
      have sh := (sta_shows M hu).shaped (by decide)
      have sh2 := shaped_tints59 (fs.map fun f => dotL f (seen k taps pat (unitL taps.length j)) % k)
      have ev := eqv_tupI (fs.map fun f => dotL f (seen k taps pat (unitL taps.length j)) % k) (unitL taps.length j)
      unfold tupI at sh sh2 ev ⊢
      dsimp only
      rw [ev]
      refine ⟨⟨sh2, sh⟩, rfl, bs ++ [decide ((fs.map fun f => dotL f (seen k taps pat (unitL taps.length j)) % k) = unitL taps.length j)], by rw [List.map_append]; rfl, by rw [List.length_append, hbl]; rfl, fun t ht => ?_⟩
      rcases Nat.lt_trichotomy t j with g | g | g
      · rw [List.getElem?_append_left (by omega)] at ht
        exact hbs t ht
      · subst g
        rw [List.getElem?_append_right (by omega), hbl, Nat.sub_self] at ht
        simp only [List.getElem?_cons_zero, Option.some.injEq] at ht
        exact of_decide_eq_true ht
      · rw [List.getElem?_eq_none (by rw [List.length_append, hbl]; simp; omega)] at ht
        cases ht
    · rintro acc s' ⟨rfl, bs, rfl, hbl, hbs⟩
      rw [allP_bls]
      dsimp only
      refine fin_p (q _ fun hb t ht => hbs t ?_)
      rw [List.length_range] at hbl
      have h1 : t < bs.length := by omega
      have h2 := List.all_eq_true.mp hb _ (List.getElem_mem h1)
      rw [List.getElem?_eq_getElem h1]
      exact congrArg some h2
theorem ok_shows_sees (T : Txt K mg base) : Ok3 P w K mg base 4 "shows_sees" sp_shows_sees := by
  obtain ⟨f, fd, F, hm, hb⟩ := T.f_shows_sees
  exact Ok3.mk' F hm hb sc_shows_sees (fun ds S Q h => by simp only [sp_shows_sees] at h; first | (obtain ⟨rfl, _⟩ := h; rfl) | (obtain ⟨_, rfl, _⟩ := h; rfl) | (obtain ⟨_, _, rfl, _⟩ := h; rfl) | (obtain ⟨_, _, _, rfl, _⟩ := h; rfl) | (obtain ⟨_, _, _, _, rfl, _⟩ := h; rfl) | (obtain ⟨_, _, _, _, _, rfl, _⟩ := h; rfl) | (obtain ⟨_, _, _, _, _, _, rfl, _⟩ := h; rfl) | (obtain ⟨_, _, _, _, _, _, _, rfl, _⟩ := h; rfl) | (obtain ⟨_, _, _, _, _, _, _, _, rfl, _⟩ := h; rfl) | (obtain ⟨_, _, _, _, _, _, _, _, _, rfl, _⟩ := h; rfl) | (obtain ⟨_, _, _, _, _, _, _, _, _, _, rfl, _⟩ := h; rfl) | exact h.2) (fun cdv A outer s H E hr => dv_shows_sees T hr) rd_shows_sees
def sp_shows_blind : Sp3 := fun ds S Q => ∃ (k : Int) (taps : List Int) (pat : List Nat) (st : List Int), ds = [.p (mach k taps), .p (tupI (patI pat)), .p (tupI st)] ∧ Mach k taps ∧ Sta k taps st ∧ Q (.p (.bool (st.any (fun n => decide (n ≠ 0)) && !((seen k taps pat st).any fun n => decide (n ≠ 0))))) S
def t_shows_blind : TS3 := tSeq3 (tAsgT3 (tVar3 0) (.tup (.cons (.nm 3) (.cons (.nm 4) (.nil))))) (tSeq3 (tIfS3 (tOr3 (tNot3 (tTest3 (tCB3 sp_are_numbers (tCons3 (tVar3 2) (tCons3 (tVar3 3) (tNil3)))))) (tOr3 (tTest3 (tOp3 rNeS3 (tCB3 (rLenA3) (tCons3 (tVar3 2) (tNil3))) (tCB3 (rLenA3) (tCons3 (tVar3 4) (tNil3))))) (tNot3 (tTest3 (tCB3 (rAnyT3) (tCons3 (tVar3 2) (tNil3))))))) (tRet3 (tC3 (.bool false))) (tNext3)) (tRet3 (tNotV3 (tCB3 (rAnyT3) (tCons3 (tCB3 sp_shown (tCons3 (tVar3 0) (tCons3 (tVar3 1) (tCons3 (tVar3 2) (tNil3))))) (tNil3))))))
theorem dv_shows_blind (T : Txt K mg base) {f : Addr} {cdv : Value} {A : Around} {outer : List Env} {s : Shared} {H : Hp} {E : XK} (hr : Room 3 (A.deeper (envOfC "shows_blind" (defScope s_shows_blind) s.heap.objs.size f cdv))) : QSs (cxOf CX0 P w K mg base nm_shows_blind "shows_blind" (defScope s_shows_blind) f cdv A outer s H E).nox (defBody s_shows_blind) t_shows_blind :=
  qss_cons (qs_asgT (qv 0) (qb_tup rfl (qbs_cons (qb_nm (i := 3) sc_shows_blind.nd rfl (by first | exact .inl rfl | exact .inr rfl)) (qbs_cons (qb_nm (i := 4) sc_shows_blind.nd rfl (by first | exact .inl rfl | exact .inr rfl)) (qbs_nil))))) (qss_cons (qs_if (qt_w (qw_or (qt_not (qt_val (qe_call (ok_are_numbers T) (hr.mono (by decide)) (by rfl) (qa_cons (qv 2) (qa_cons (qv 3) (qa_nil)))))) (qw_or (qt_cmp (oq_neS hr.units) (qe_cb cq_lenA (by rfl) T.b_len (by decide +kernel) (qa_cons (qv 2) (qa_nil))) (qe_cb cq_lenA (by rfl) T.b_len (by decide +kernel) (qa_cons (qv 4) (qa_nil)))) (qw_or1 (qt_not (qt_val (qe_cb (cq_anyT rfl) (by rfl) T.b_any (by decide +kernel) (qa_cons (qv 2) (qa_nil))))))))) (qss_one (qs_ret (qe_bl))) (qss_nil)) (qss_one (qs_ret (qe_not (qe_cb (cq_anyT rfl) (by rfl) T.b_any (by decide +kernel) (qa_cons (qe_call (ok_shown T) (hr.mono (by decide)) (by rfl) (qa_cons (qv 0) (qa_cons (qv 1) (qa_cons (qv 2) (qa_nil))))) (qa_nil)))))))
theorem rd_shows_blind : ∀ ds S Q, sp_shows_blind ds S Q → t_shows_blind { nx := fun _ S' => Fin3 S Q (.p .none) S', rt := Fin3 S Q } (env0 5 ds) S := by
  rintro _ S Q ⟨k, taps, pat, st, rfl, M, h, q⟩
  have hmp := M.pos
  unfold t_shows_blind sp_are_numbers sp_shown mach
  walk_at "rd"
  have hlen := h.len
  refine ⟨k, st, rfl, h.ok, ?_⟩
  unfold tupI
  walk_at "rd"
  rw [hlen, if_neg (by simp), allP_ints]
  dsimp only
  cases hst : st.any fun n => decide (n ≠ 0) with
  | false =>
    rw [hst] at q
    rw [if_pos rfl]
    exact fin_p q
  | true =>
    rw [hst] at q
    rw [if_neg (by decide)]
    refine ⟨k, taps, st, pat, rfl, M, h, ?_⟩
    rw [allP_ints]
    dsimp only
    rw [Bool.true_and] at q
    exact fin_p q
theorem ok_shows_blind (T : Txt K mg base) : Ok3 P w K mg base 4 "shows_blind" sp_shows_blind := by
  obtain ⟨f, fd, F, hm, hb⟩ := T.f_shows_blind
  exact Ok3.mk' F hm hb sc_shows_blind (fun ds S Q h => by simp only [sp_shows_blind] at h; first | (obtain ⟨rfl, _⟩ := h; rfl) | (obtain ⟨_, rfl, _⟩ := h; rfl) | (obtain ⟨_, _, rfl, _⟩ := h; rfl) | (obtain ⟨_, _, _, rfl, _⟩ := h; rfl) | (obtain ⟨_, _, _, _, rfl, _⟩ := h; rfl) | (obtain ⟨_, _, _, _, _, rfl, _⟩ := h; rfl) | (obtain ⟨_, _, _, _, _, _, rfl, _⟩ := h; rfl) | (obtain ⟨_, _, _, _, _, _, _, rfl, _⟩ := h; rfl) | (obtain ⟨_, _, _, _, _, _, _, _, rfl, _⟩ := h; rfl) | (obtain ⟨_, _, _, _, _, _, _, _, _, rfl, _⟩ := h; rfl) | (obtain ⟨_, _, _, _, _, _, _, _, _, _, rfl, _⟩ := h; rfl) | exact h.2) (fun cdv A outer s H E hr => dv_shows_blind T hr) rd_shows_blind
def sp_shows_judged : Sp3 := fun ds S Q => ∃ (k : Int) (taps : List Int) (pat : List Nat) (d : PyData), ds = [.p (mach k taps), .p (tupI (patI pat)), .p d] ∧ Mach k taps ∧ pat.length ≤ 16 ∧
  ((∃ st, d = .tuple [.str (PySem.Str.ofString "blind"), tupI st] ∧ Sta k taps st ∧ Q (.p (.bool (st.any (fun n => decide (n ≠ 0)) && !((seen k taps pat st).any fun n => decide (n ≠ 0))))) S) ∨
   (∃ fs : List (List Int), d = .tuple [.str (PySem.Str.ofString "sees"), .tuple (fs.map tupI)] ∧ fs.length = taps.length ∧ (∀ f ∈ fs, f.length = pat.length ∧ ∀ x ∈ f, 0 ≤ x ∧ x < k) ∧ ∀ b : Bool, (b = true → ∀ t, t < taps.length → (fs.map fun f => dotL f (seen k taps pat (unitL taps.length t)) % k) = unitL taps.length t) → Q (.p (.bool b)) S))
def t_shows_judged : TS3 := tSeq3 (tIfS3 (tOr3 (tNot3 (tTest3 (tIsi3 "tuple" (tVar3 2)))) (tOr3 (tTest3 (tOp3 rNeS3 (tCB3 (rLenA3) (tCons3 (tVar3 2) (tNil3))) (tC3 (.int 2)))) (tNot3 (tTest3 (tIsi3 "str" (tOp3 rIx3 (tVar3 2) (tC3 (.int 0)))))))) (tRet3 (tC3 (.bool false))) (tNext3)) (tSeq3 (tIfS3 (tTest3 (tOp3 rEqS3 (tOp3 rIx3 (tVar3 2) (tC3 (.int 0))) (tC3 (.str (PySem.Str.ofString "sees"))))) (tRet3 (tCB3 sp_shows_sees (tCons3 (tVar3 0) (tCons3 (tVar3 1) (tCons3 (tOp3 rIx3 (tVar3 2) (tC3 (.int 1))) (tNil3)))))) (tNext3)) (tRet3 (tAndV3 (tOp3 rEqS3 (tOp3 rIx3 (tVar3 2) (tC3 (.int 0))) (tC3 (.str (PySem.Str.ofString "blind")))) (tCB3 sp_shows_blind (tCons3 (tVar3 0) (tCons3 (tVar3 1) (tCons3 (tOp3 rIx3 (tVar3 2) (tC3 (.int 1))) (tNil3))))))))
theorem dv_shows_judged (T : Txt K mg base) {f : Addr} {cdv : Value} {A : Around} {outer : List Env} {s : Shared} {H : Hp} {E : XK} (hr : Room 4 (A.deeper (envOfC "shows_judged" (defScope s_shows_judged) s.heap.objs.size f cdv))) : QSs (cxOf CX0 P w K mg base nm_shows_judged "shows_judged" (defScope s_shows_judged) f cdv A outer s H E).nox (defBody s_shows_judged) t_shows_judged :=
  qss_cons (qs_if (qt_w (qw_or (qt_not (qt_val (qe_isi (T := "tuple") (by decide +kernel) (by rfl) (T.b_isinstance) (by rfl) (T.b_tuple) (by decide +kernel) (by decide) (by decide) (qv 2)))) (qw_or (qt_cmp (oq_neS hr.units) (qe_cb cq_lenA (by rfl) T.b_len (by decide +kernel) (qa_cons (qv 2) (qa_nil))) (qe_int)) (qw_or1 (qt_not (qt_val (qe_isi (T := "str") (by decide +kernel) (by rfl) (T.b_isinstance) (by rfl) (T.b_str) (by decide +kernel) (by decide) (by decide) (qe_ix iq_seq (qv 2) (qe_int))))))))) (qss_one (qs_ret (qe_bl))) (qss_nil)) (qss_cons (qs_if (qt_cmp (oq_eqS hr.units) (qe_ix iq_seq (qv 2) (qe_int)) (qe_str)) (qss_one (qs_ret (qe_call (ok_shows_sees T) (hr.mono (by decide)) (by rfl) (qa_cons (qv 0) (qa_cons (qv 1) (qa_cons (qe_ix iq_seq (qv 2) (qe_int)) (qa_nil))))))) (qss_nil)) (qss_one (qs_ret (qe_and (qe_cmp (oq_eqS hr.units) (qe_ix iq_seq (qv 2) (qe_int)) (qe_str)) (qe_one (qe_call (ok_shows_blind T) (hr.mono (by decide)) (by rfl) (qa_cons (qv 0) (qa_cons (qv 1) (qa_cons (qe_ix iq_seq (qv 2) (qe_int)) (qa_nil))))))))))
theorem rd_shows_judged : ∀ ds S Q, sp_shows_judged ds S Q → t_shows_judged { nx := fun _ S' => Fin3 S Q (.p .none) S', rt := Fin3 S Q } (env0 3 ds) S := by
  rintro _ S Q ⟨k, taps, pat, d, rfl, M, hpl, h⟩
  unfold t_shows_judged sp_shows_sees sp_shows_blind
  rcases h with ⟨st, rfl, hst, q⟩ | ⟨fs, rfl, h1, h2, q⟩
  · walk_at "rd"
    rw [if_neg (by simp), if_neg (by decide +kernel)]
    exact ⟨k, taps, pat, st, rfl, M, hst, fin_p q⟩
  · walk_at "rd"
    rw [if_neg (by simp)]
    exact ⟨k, taps, pat, fs, rfl, M, hpl, h1, h2, fun b hb => fin_p (q b hb)⟩
theorem ok_shows_judged (T : Txt K mg base) : Ok3 P w K mg base 5 "shows_judged" sp_shows_judged := by
  obtain ⟨f, fd, F, hm, hb⟩ := T.f_shows_judged
  exact Ok3.mk' F hm hb sc_shows_judged (fun ds S Q h => by simp only [sp_shows_judged] at h; first | (obtain ⟨rfl, _⟩ := h; rfl) | (obtain ⟨_, rfl, _⟩ := h; rfl) | (obtain ⟨_, _, rfl, _⟩ := h; rfl) | (obtain ⟨_, _, _, rfl, _⟩ := h; rfl) | (obtain ⟨_, _, _, _, rfl, _⟩ := h; rfl) | (obtain ⟨_, _, _, _, _, rfl, _⟩ := h; rfl) | (obtain ⟨_, _, _, _, _, _, rfl, _⟩ := h; rfl) | (obtain ⟨_, _, _, _, _, _, _, rfl, _⟩ := h; rfl) | (obtain ⟨_, _, _, _, _, _, _, _, rfl, _⟩ := h; rfl) | (obtain ⟨_, _, _, _, _, _, _, _, _, rfl, _⟩ := h; rfl) | (obtain ⟨_, _, _, _, _, _, _, _, _, _, rfl, _⟩ := h; rfl) | exact h.2) (fun cdv A outer s H E hr => dv_shows_judged T hr) rd_shows_judged
def sp__law_hand : Sp3 := fun ds S Q => ∃ (ns : List Int) (k : Int), ds = [.p (.list (ns.map PyData.int)), .p (.int k)] ∧ ns.length ≤ 63 ∧ 0 ≤ k ∧ k ≤ 1000 ∧ ∀ S', HdB S' S.length 0 → S'.take S.length = S → S'.length = S.length + 1 → Q (.loc S.length) S'
def t__law_hand : TS3 := tSeq3 (tSet3 2 (tC3 (.int 0))) (tSeq3 (tIfS3 (tTest3 (tOp3 rLtD3 (tVar3 1) (tCB3 (rLenA3) (tCons3 (tVar3 0) (tNil3))))) (tSet3 2 (tOp3 rIx3 (tVar3 0) (tVar3 1))) (tNext3)) (tSeq3 (tSet3 3 (tOp3 rMulT3 (tOp3 rMod3 (tVar3 2) (tOp3 rMulT3 (tOp3 rPow3 (tC3 (.int 10)) (tC3 (.int 60))) (tOp3 rPow3 (tC3 (.int 10)) (tC3 (.int 30))))) (tCB3 (rIntOf3) (tCons3 (tOp3 rGe3 (tVar3 2) (tOp3 rPow3 (tC3 (.int 10)) (tC3 (.int 18)))) (tNil3))))) (tRet3 (tOwn (tLst3 (tCons3 (tVar3 3) (tCons3 (tOp3 rMod3 (tOp3 rAdd3 (tOp3 rAdd3 (tOp3 rMod3 (tVar3 2) (tC3 (.int 2305843009213693951))) (tOp3 rMulT3 (tC3 (.int 7919)) (tVar3 1))) (tC3 (.int 3))) (tC3 (.int 2305843009213693951))) (tCons3 (tC3 (.int 0)) (tNil3)))))))))
theorem dv__law_hand (T : Txt K mg base) {f : Addr} {cdv : Value} {A : Around} {outer : List Env} {s : Shared} {H : Hp} {E : XK} (hr : Room 0 (A.deeper (envOfC "_law_hand" (defScope s__law_hand) s.heap.objs.size f cdv))) : QSs (cxOf CX0 P w K mg base nm__law_hand "_law_hand" (defScope s__law_hand) f cdv A outer s H E).nox (defBody s__law_hand) t__law_hand :=
  qss_cons (qs_set (i := 2) sc__law_hand.nd rfl (by first | exact .inl rfl | exact .inr rfl) (qe_int)) (qss_cons (qs_if (qt_cmp (oq_ltD hr.units) (qv 1) (qe_cb cq_lenA (by rfl) T.b_len (by decide +kernel) (qa_cons (qv 0) (qa_nil)))) (qss_one (qs_set (i := 2) sc__law_hand.nd rfl (by first | exact .inl rfl | exact .inr rfl) (qe_ix iq_seq (qv 0) (qv 1)))) (qss_nil)) (qss_cons (qs_set (i := 3) sc__law_hand.nd rfl (by first | exact .inl rfl | exact .inr rfl) (qe_op oq_mulT (qe_op oq_mod (qv 2) (qe_op oq_mulT (qe_op oq_pow (qe_int) (qe_int)) (qe_op oq_pow (qe_int) (qe_int)))) (qe_ty cq_int (by rfl) T.b_int (by decide +kernel) (qa_cons (qe_cmp oq_ge (qv 2) (qe_op oq_pow (qe_int) (qe_int))) (qa_nil))))) (qss_one (qs_ret (qn_own (qn_lst (qa_cons (qv 3) (qa_cons (qe_op oq_mod (qe_op oq_add (qe_op oq_add (qe_op oq_mod (qv 2) (qe_int)) (qe_op oq_mulT (qe_int) (qv 1))) (qe_int)) (qe_int)) (qa_cons (qe_int) (qa_nil))))))))))
theorem rd__law_hand : ∀ ds S Q, sp__law_hand ds S Q → t__law_hand { nx := fun _ S' => Fin3 S Q (.p .none) S', rt := Fin3 S Q } (env0 4 ds) S := by
  rintro _ S Q ⟨ns, k, rfl, hl, h0, h1, q⟩
  unfold t__law_hand
  walk_at "rd"
  have fin : ∀ g x : Int, Fin3 S Q (.loc S.length) (S ++ [some (.lst [.int g, .int x, .int 0])]) := fun g x => fin_new (q _ ⟨g, x, 0, by simp, by decide, by decide⟩ (by simp) (by simp))
  by_cases h : k < (ns.length : Int)
  · rw [if_pos h]
    obtain ⟨n, rfl⟩ := Int.eq_ofNat_of_zero_le h0
    have hn : n < ns.length := by omega
    simp only [show atI (ns.map PyData.int) (n : Int) = some (.int ns[n]) from atI_nat (by rw [List.getElem?_map, List.getElem?_eq_getElem hn]; rfl)]
    generalize ns[n] = c
    walk_at "cj"
    exact fin _ _
  · rw [if_neg h]
    walk_at "cj"
    exact fin _ _
theorem ok__law_hand (T : Txt K mg base) : Ok3 P w K mg base 1 "_law_hand" sp__law_hand := by
  obtain ⟨f, fd, F, hm, hb⟩ := T.f__law_hand
  exact Ok3.mk' F hm hb sc__law_hand (fun ds S Q h => by simp only [sp__law_hand] at h; first | (obtain ⟨rfl, _⟩ := h; rfl) | (obtain ⟨_, rfl, _⟩ := h; rfl) | (obtain ⟨_, _, rfl, _⟩ := h; rfl) | (obtain ⟨_, _, _, rfl, _⟩ := h; rfl) | (obtain ⟨_, _, _, _, rfl, _⟩ := h; rfl) | (obtain ⟨_, _, _, _, _, rfl, _⟩ := h; rfl) | (obtain ⟨_, _, _, _, _, _, rfl, _⟩ := h; rfl) | (obtain ⟨_, _, _, _, _, _, _, rfl, _⟩ := h; rfl) | (obtain ⟨_, _, _, _, _, _, _, _, rfl, _⟩ := h; rfl) | (obtain ⟨_, _, _, _, _, _, _, _, _, rfl, _⟩ := h; rfl) | (obtain ⟨_, _, _, _, _, _, _, _, _, _, rfl, _⟩ := h; rfl) | exact h.2) (fun cdv A outer s H E hr => dv__law_hand T hr) rd__law_hand
def sp__law_take : Sp3 := fun ds S Q => ∃ (n : Nat) (m b : Int), ds = [.loc n, .p (.int m)] ∧ 0 < m ∧ m ≤ 1000000000000 ∧ HdB S n b ∧ b ≤ 1000000000000 ∧ ∀ d S', 0 ≤ d → d < m → HdTo n S S' → HdB S' n (b + 1) → Q (.p (.int d)) S'
def t__law_take : TS3 := tSeq3 (tIfS3 (tTest3 (tOp3 rGt3 (tOp3 rIx3 (tVar3 0) (tC3 (.int 0))) (tC3 (.int 0)))) (tSeq3 (tSet3 2 (tOp3 rMod3 (tOp3 rIx3 (tVar3 0) (tC3 (.int 0))) (tVar3 1))) (tSeq3 (tPut3 (tOp3 rDiv3 (tOp3 rIx3 (tVar3 0) (tC3 (.int 0))) (tVar3 1)) (tVar3 0) (tC3 (.int 0))) (tRet3 (tVar3 2)))) (tNext3)) (tSeq3 (tPut3 (tOp3 rAdd3 (tOp3 rIx3 (tVar3 0) (tC3 (.int 2))) (tC3 (.int 1))) (tVar3 0) (tC3 (.int 2))) (tSeq3 (tSet3 3 (tOp3 rMod3 (tOp3 rMulT3 (tOp3 rAdd3 (tOp3 rAdd3 (tOp3 rIx3 (tVar3 0) (tC3 (.int 1))) (tOp3 rMulT3 (tOp3 rMulT3 (tC3 (.int 65537)) (tOp3 rIx3 (tVar3 0) (tC3 (.int 2)))) (tOp3 rIx3 (tVar3 0) (tC3 (.int 2))))) (tC3 (.int 11))) (tC3 (.int 48271))) (tC3 (.int 2305843009213693921)))) (tSeq3 (tSet3 3 (tOp3 rMod3 (tOp3 rMulT3 (tVar3 3) (tOp3 rAdd3 (tOp3 rMod3 (tVar3 3) (tC3 (.int 1000003))) (tOp3 rMulT3 (tC3 (.int 99991)) (tOp3 rIx3 (tVar3 0) (tC3 (.int 2)))))) (tC3 (.int 2305843009213693907)))) (tRet3 (tOp3 rMod3 (tOp3 rAdd3 (tOp3 rDiv3 (tVar3 3) (tC3 (.int 97))) (tOp3 rDiv3 (tVar3 3) (tC3 (.int 1000033)))) (tVar3 1))))))
theorem dv__law_take (T : Txt K mg base) {f : Addr} {cdv : Value} {A : Around} {outer : List Env} {s : Shared} {H : Hp} {E : XK} (hr : Room 0 (A.deeper (envOfC "_law_take" (defScope s__law_take) s.heap.objs.size f cdv))) : QSs (cxOf CX0 P w K mg base nm__law_take "_law_take" (defScope s__law_take) f cdv A outer s H E).nox (defBody s__law_take) t__law_take :=
  qss_cons (qs_if (qt_cmp oq_gt (qe_ix iq_seq (qv 0) (qe_int)) (qe_int)) (qss_cons (qs_set (i := 2) sc__law_take.nd rfl (by first | exact .inl rfl | exact .inr rfl) (qe_op oq_mod (qe_ix iq_seq (qv 0) (qe_int)) (qv 1))) (qss_cons (qs_put (qe_op oq_div (qe_ix iq_seq (qv 0) (qe_int)) (qv 1)) (qv 0) (qe_int)) (qss_one (qs_ret (qv 2))))) (qss_nil)) (qss_cons (qs_put (qe_op oq_add (qe_ix iq_seq (qv 0) (qe_int)) (qe_int)) (qv 0) (qe_int)) (qss_cons (qs_set (i := 3) sc__law_take.nd rfl (by first | exact .inl rfl | exact .inr rfl) (qe_op oq_mod (qe_op oq_mulT (qe_op oq_add (qe_op oq_add (qe_ix iq_seq (qv 0) (qe_int)) (qe_op oq_mulT (qe_op oq_mulT (qe_int) (qe_ix iq_seq (qv 0) (qe_int))) (qe_ix iq_seq (qv 0) (qe_int)))) (qe_int)) (qe_int)) (qe_int))) (qss_cons (qs_set (i := 3) sc__law_take.nd rfl (by first | exact .inl rfl | exact .inr rfl) (qe_op oq_mod (qe_op oq_mulT (qv 3) (qe_op oq_add (qe_op oq_mod (qv 3) (qe_int)) (qe_op oq_mulT (qe_int) (qe_ix iq_seq (qv 0) (qe_int))))) (qe_int))) (qss_one (qs_ret (qe_op oq_mod (qe_op oq_add (qe_op oq_div (qv 3) (qe_int)) (qe_op oq_div (qv 3) (qe_int))) (qv 1)))))))
theorem rd__law_take : ∀ ds S Q, sp__law_take ds S Q → t__law_take { nx := fun _ S' => Fin3 S Q (.p .none) S', rt := Fin3 S Q } (env0 4 ds) S := by
  rintro _ S Q ⟨n, m, b, rfl, h0, h1, hd, hb, q⟩
  have hlt := hd.hd.lt
  obtain ⟨g, x, c, hs, c0, c1⟩ := hd
  unfold t__law_take
  walk_at "rd"
  simp only [hs, List.getElem?_set_self hlt]
  walk_at "rd"
  try simp only [hs, List.getElem?_set_self hlt]
  walk_at "rd"
  by_cases hg : 0 < g
  · rw [if_pos hg]
    refine ⟨h0, ⟨h0, .inl (by omega)⟩, fin_hd ⟨_, _, _, rfl⟩ (q _ _ (Int.emod_nonneg _ (by omega)) (Int.emod_lt_of_pos _ h0) ⟨_, _, _, rfl⟩ ⟨_, _, _, List.getElem?_set_self hlt, c0, by omega⟩)⟩
  · rw [if_neg hg]
    have := Int.emod_nonneg ((x + 65537 * (c + 1) * (c + 1) + 11) * 48271) (show (2305843009213693921 : Int) ≠ 0 by decide)
    have := Int.emod_lt_of_pos ((x + 65537 * (c + 1) * (c + 1) + 11) * 48271) (show (0 : Int) < 2305843009213693921 by decide)
    walk_at "cj"
    refine fin_hd ⟨_, _, _, rfl⟩ (q _ _ (Int.emod_nonneg _ (by omega)) (Int.emod_lt_of_pos _ h0) ⟨_, _, _, rfl⟩ ⟨_, _, _, List.getElem?_set_self hlt, by omega, by omega⟩)
theorem ok__law_take (T : Txt K mg base) : Ok3 P w K mg base 1 "_law_take" sp__law_take := by
  obtain ⟨f, fd, F, hm, hb⟩ := T.f__law_take
  exact Ok3.mk' F hm hb sc__law_take (fun ds S Q h => by simp only [sp__law_take] at h; first | (obtain ⟨rfl, _⟩ := h; rfl) | (obtain ⟨_, rfl, _⟩ := h; rfl) | (obtain ⟨_, _, rfl, _⟩ := h; rfl) | (obtain ⟨_, _, _, rfl, _⟩ := h; rfl) | (obtain ⟨_, _, _, _, rfl, _⟩ := h; rfl) | (obtain ⟨_, _, _, _, _, rfl, _⟩ := h; rfl) | (obtain ⟨_, _, _, _, _, _, rfl, _⟩ := h; rfl) | (obtain ⟨_, _, _, _, _, _, _, rfl, _⟩ := h; rfl) | (obtain ⟨_, _, _, _, _, _, _, _, rfl, _⟩ := h; rfl) | (obtain ⟨_, _, _, _, _, _, _, _, _, rfl, _⟩ := h; rfl) | (obtain ⟨_, _, _, _, _, _, _, _, _, _, rfl, _⟩ := h; rfl) | exact h.2) (fun cdv A outer s H E hr => dv__law_take T hr) rd__law_take
def sp__law_pick : Sp3 := fun ds S Q => ∃ (n : Nat) (b : Int) (xs : List PyData), ds = [.loc n, .p (.list xs)] ∧ xs ≠ [] ∧ xs.length ≤ 1000000 ∧ HdB S n b ∧ b ≤ 1000000000000 ∧ ∀ x S', x ∈ xs → HdTo n S S' → HdB S' n (b + 1) → Q (.p x) S'
def t__law_pick : TS3 := tRet3 (tOp3 rIx3 (tVar3 1) (tCB3 sp__law_take (tCons3 (tVar3 0) (tCons3 (tCB3 (rLenA3) (tCons3 (tVar3 1) (tNil3))) (tNil3)))))
theorem dv__law_pick (T : Txt K mg base) {f : Addr} {cdv : Value} {A : Around} {outer : List Env} {s : Shared} {H : Hp} {E : XK} (hr : Room 1 (A.deeper (envOfC "_law_pick" (defScope s__law_pick) s.heap.objs.size f cdv))) : QSs (cxOf CX0 P w K mg base nm__law_pick "_law_pick" (defScope s__law_pick) f cdv A outer s H E).nox (defBody s__law_pick) t__law_pick :=
  qss_one (qs_ret (qe_ix iq_seq (qv 1) (qe_call (ok__law_take T) (hr.mono (by decide)) (by rfl) (qa_cons (qv 0) (qa_cons (qe_cb cq_lenA (by rfl) T.b_len (by decide +kernel) (qa_cons (qv 1) (qa_nil))) (qa_nil))))))
theorem rd__law_pick : ∀ ds S Q, sp__law_pick ds S Q → t__law_pick { nx := fun _ S' => Fin3 S Q (.p .none) S', rt := Fin3 S Q } (env0 2 ds) S := by
  rintro _ S Q ⟨n, b, xs, rfl, hne, hl, hd, hb, q⟩
  have hpos : 0 < xs.length := List.length_pos_iff.mpr hne
  unfold t__law_pick sp__law_take
  walk_at "rd"
  refine ⟨n, _, b, rfl, by omega, by omega, hd, hb, fun d S' a0 a1 t hd' => ?_⟩
  obtain ⟨j, x, rfl, hj, hx, e⟩ := atI_lt a0 a1
  simp only [e]
  exact fin_hd t (q x S' (List.mem_of_getElem? hx) t hd')
theorem ok__law_pick (T : Txt K mg base) : Ok3 P w K mg base 2 "_law_pick" sp__law_pick := by
  obtain ⟨f, fd, F, hm, hb⟩ := T.f__law_pick
  exact Ok3.mk' F hm hb sc__law_pick (fun ds S Q h => by simp only [sp__law_pick] at h; first | (obtain ⟨rfl, _⟩ := h; rfl) | (obtain ⟨_, rfl, _⟩ := h; rfl) | (obtain ⟨_, _, rfl, _⟩ := h; rfl) | (obtain ⟨_, _, _, rfl, _⟩ := h; rfl) | (obtain ⟨_, _, _, _, rfl, _⟩ := h; rfl) | (obtain ⟨_, _, _, _, _, rfl, _⟩ := h; rfl) | (obtain ⟨_, _, _, _, _, _, rfl, _⟩ := h; rfl) | (obtain ⟨_, _, _, _, _, _, _, rfl, _⟩ := h; rfl) | (obtain ⟨_, _, _, _, _, _, _, _, rfl, _⟩ := h; rfl) | (obtain ⟨_, _, _, _, _, _, _, _, _, rfl, _⟩ := h; rfl) | (obtain ⟨_, _, _, _, _, _, _, _, _, _, rfl, _⟩ := h; rfl) | exact h.2) (fun cdv A outer s H E hr => dv__law_pick T hr) rd__law_pick
def sp__law_machine : Sp3 := fun ds S Q => ∃ (n : Nat) (b : Int), ds = [.loc n] ∧ HdB S n b ∧ b ≤ 1000000 ∧ ∀ k taps S', Mach k taps → HdTo n S S' → HdB S' n (b + 20) → Q (.p (mach k taps)) S'
def t__law_machine : TS3 := tSeq3 (tAsgT3 (tCB3 sp__law_pick (tCons3 (tVar3 0) (tCons3 (tPure (tLst3 (tCons3 (tTup3 (tCons3 (tC3 (.int 2)) (tCons3 (tC3 (.int 6)) (tNil3)))) (tCons3 (tTup3 (tCons3 (tC3 (.int 3)) (tCons3 (tC3 (.int 4)) (tNil3)))) (tCons3 (tTup3 (tCons3 (tC3 (.int 5)) (tCons3 (tC3 (.int 3)) (tNil3)))) (tCons3 (tTup3 (tCons3 (tC3 (.int 7)) (tCons3 (tC3 (.int 2)) (tNil3)))) (tNil3))))))) (tNil3)))) (.tup (.cons (.nm 1) (.cons (.nm 2) (.nil))))) (tSeq3 (tSet3 3 (tOp3 rIx3 (tPure (tLst3 (tCons3 (tVar3 2) (tCons3 (tOp3 rAdd3 (tC3 (.int 1)) (tCB3 sp__law_take (tCons3 (tVar3 0) (tCons3 (tVar3 2) (tNil3))))) (tCons3 (tOp3 rAdd3 (tC3 (.int 1)) (tCB3 sp__law_take (tCons3 (tVar3 0) (tCons3 (tVar3 2) (tNil3))))) (tNil3)))))) (tCB3 sp__law_take (tCons3 (tVar3 0) (tCons3 (tC3 (.int 3)) (tNil3)))))) (tSeq3 (tSet3 4 (tTup3 (tCons3 (tOp3 rAdd3 (tC3 (.int 1)) (tCB3 sp__law_take (tCons3 (tVar3 0) (tCons3 (tOp3 rSub3 (tVar3 1) (tC3 (.int 1))) (tNil3))))) (tNil3)))) (tSeq3 (tFor3 (tRng1 (tCons3 (tOp3 rSub3 (tVar3 3) (tC3 (.int 1))) (tNil3))) (.nm 5) (tSet3 4 (tOp3 rAdd3 (tVar3 4) (tTup3 (tCons3 (tCB3 sp__law_take (tCons3 (tVar3 0) (tCons3 (tVar3 1) (tNil3)))) (tNil3)))))) (tRet3 (tTup3 (tCons3 (tVar3 1) (tCons3 (tVar3 4) (tNil3))))))))
theorem dv__law_machine (T : Txt K mg base) {f : Addr} {cdv : Value} {A : Around} {outer : List Env} {s : Shared} {H : Hp} {E : XK} (hr : Room 2 (A.deeper (envOfC "_law_machine" (defScope s__law_machine) s.heap.objs.size f cdv))) : QSs (cxOf CX0 P w K mg base nm__law_machine "_law_machine" (defScope s__law_machine) f cdv A outer s H E).nox (defBody s__law_machine) t__law_machine :=
  qss_cons (qs_asgT (qe_call (ok__law_pick T) (hr.mono (by decide)) (by rfl) (qa_cons (qv 0) (qa_cons (qn_pure (qn_lst (qa_cons (qe_tup (qa_cons (qe_int) (qa_cons (qe_int) (qa_nil)))) (qa_cons (qe_tup (qa_cons (qe_int) (qa_cons (qe_int) (qa_nil)))) (qa_cons (qe_tup (qa_cons (qe_int) (qa_cons (qe_int) (qa_nil)))) (qa_cons (qe_tup (qa_cons (qe_int) (qa_cons (qe_int) (qa_nil)))) (qa_nil))))))) (qa_nil)))) (qb_tup rfl (qbs_cons (qb_nm (i := 1) sc__law_machine.nd rfl (by first | exact .inl rfl | exact .inr rfl)) (qbs_cons (qb_nm (i := 2) sc__law_machine.nd rfl (by first | exact .inl rfl | exact .inr rfl)) (qbs_nil))))) (qss_cons (qs_set (i := 3) sc__law_machine.nd rfl (by first | exact .inl rfl | exact .inr rfl) (qe_ix iq_seq (qn_pure (qn_lst (qa_cons (qv 2) (qa_cons (qe_op oq_add (qe_int) (qe_call (ok__law_take T) (hr.mono (by decide)) (by rfl) (qa_cons (qv 0) (qa_cons (qv 2) (qa_nil))))) (qa_cons (qe_op oq_add (qe_int) (qe_call (ok__law_take T) (hr.mono (by decide)) (by rfl) (qa_cons (qv 0) (qa_cons (qv 2) (qa_nil))))) (qa_nil)))))) (qe_call (ok__law_take T) (hr.mono (by decide)) (by rfl) (qa_cons (qv 0) (qa_cons (qe_int) (qa_nil)))))) (qss_cons (qs_set (i := 4) sc__law_machine.nd rfl (by first | exact .inl rfl | exact .inr rfl) (qe_tup (qa_cons (qe_op oq_add (qe_int) (qe_call (ok__law_take T) (hr.mono (by decide)) (by rfl) (qa_cons (qv 0) (qa_cons (qe_op oq_sub (qv 1) (qe_int)) (qa_nil))))) (qa_nil)))) (qss_cons (qs_for PassesOwn.never rfl (qi_range1 (by rfl) T.b_range (qa_cons (qe_op oq_sub (qv 3) (qe_int)) (qa_nil))) (qb_nm (i := 5) sc__law_machine.nd rfl (by first | exact .inl rfl | exact .inr rfl)) (qss_one (qs_set (i := 4) sc__law_machine.nd rfl (by first | exact .inl rfl | exact .inr rfl) (qe_op oq_add (qv 4) (qe_tup (qa_cons (qe_call (ok__law_take T) (hr.mono (by decide)) (by rfl) (qa_cons (qv 0) (qa_cons (qv 1) (qa_nil)))) (qa_nil))))))) (qss_one (qs_ret (qe_tup (qa_cons (qv 1) (qa_cons (qv 4) (qa_nil)))))))))
theorem rd__law_machine : ∀ ds S Q, sp__law_machine ds S Q → t__law_machine { nx := fun _ S' => Fin3 S Q (.p .none) S', rt := Fin3 S Q } (env0 6 ds) S := by
  rintro _ S Q ⟨n, b, rfl, hd, hb, q⟩
  unfold t__law_machine sp__law_take sp__law_pick
  walk_at "rd"
  refine ⟨n, b, _, rfl, by simp, by simp, hd, by omega, fun x S1 hx t1 hd1 => ?_⟩
  obtain ⟨k, most, rfl, hk⟩ : ∃ k most : Int, x = .tuple [.int k, .int most] ∧ ((k = 2 ∧ most = 6) ∨ (k = 3 ∧ most = 4) ∨ (k = 5 ∧ most = 3) ∨ (k = 7 ∧ most = 2)) := by
    simp only [List.mem_cons, List.not_mem_nil, or_false] at hx
    rcases hx with rfl | rfl | rfl | rfl
    · exact ⟨2, 6, rfl, by simp⟩
    · exact ⟨3, 4, rfl, by simp⟩
    · exact ⟨5, 3, rfl, by simp⟩
    · exact ⟨7, 2, rfl, by simp⟩
  walk_at "rd"
  refine ⟨n, most, b + 1, rfl, by omega, by omega, hd1, by omega, fun d2 S2 a2 b2 t2 hd2 => ?_⟩
  refine ⟨n, most, b + 2, rfl, by omega, by omega, hd2.le (by omega), by omega, fun d3 S3 a3 b3 t3 hd3 => ?_⟩
  refine ⟨n, 3, b + 3, rfl, by omega, by omega, hd3.le (by omega), by omega, fun d4 S4 a4 b4 t4 hd4 => ?_⟩
  obtain ⟨many, hv, hm1, hm2⟩ : ∃ v, atI [PyData.int most, PyData.int (1 + d2), PyData.int (1 + d3)] d4 = some (.int v) ∧ 1 ≤ v ∧ v ≤ most := by
    obtain ⟨j, rfl⟩ := Int.eq_ofNat_of_zero_le a4
    match j, b4 with
    | 0, _ => exact ⟨_, rfl, by omega, by omega⟩
    | 1, _ => exact ⟨_, rfl, by omega, by omega⟩
    | 2, _ => exact ⟨_, rfl, by omega, by omega⟩
    | j + 3, h => omega
  simp only [hv]
  walk_at "rd"
  refine ⟨n, k - 1, b + 4, rfl, by omega, by omega, hd4.le (by omega), by omega, fun d5 S5 a5 b5 t5 hd5 => ?_⟩
  walk_at "rd"
  refine ⟨by omega, ?_⟩
  have tt := (((t1.trans t2).trans t3).trans t4).trans t5
  refine ⟨fun i e s => ∃ (r : List Int) (z : Option D), r.length = i ∧ (∀ t ∈ r, 0 ≤ t ∧ t < k) ∧ HdTo n S s ∧ HdB s n (b + 5 + i) ∧ e = [some (.loc n), some (.p (.int k)), some (.p (.int most)), some (.p (.int many)), some (.p (tupI ((1 + d5) :: r))), z], ⟨[], none, rfl, (fun t ht => nomatch ht), tt, hd5.le (by omega), rfl⟩, fun _ _ _ _ => trivial, ?_, ?_⟩
  · rintro i d e s hx ⟨r, z, hr, hrk, ts, hds, rfl⟩
    obtain ⟨hi, rfl⟩ := rng_get hx
    unfold tupI
    walk_at "rd"
    refine ⟨n, k, b + 5 + i, rfl, by omega, by omega, hds, by omega, fun d6 S6 a6 b6 t6 hd6 => ?_⟩
    refine ⟨by omega, wk_self ⟨r ++ [d6], some (.p (.int (0 + (i : Nat)))), by simp [hr], fun t ht => ?_, ts.trans t6, hd6.le (by omega), ?_⟩⟩
    · rcases List.mem_append.mp ht with ht | ht
      · exact hrk t ht
      · rw [List.mem_singleton] at ht
        subst ht
        exact ⟨a6, b6⟩
    · simp
  · rintro e s ⟨r, z, hr, hrk, ts, hds, rfl⟩
    rw [rng_len] at hr hds
    walk_at "rd"
    refine fin_hd ts (q k _ s ⟨?_, ⟨_, _, rfl, by omega⟩, fun t ht => ?_⟩ ts (hds.le (by omega)))
    · rw [List.length_cons]
      omega
    · rcases List.mem_cons.mp ht with rfl | ht
      · omega
      · exact hrk t ht
theorem ok__law_machine (T : Txt K mg base) : Ok3 P w K mg base 3 "_law_machine" sp__law_machine := by
  obtain ⟨f, fd, F, hm, hb⟩ := T.f__law_machine
  exact Ok3.mk' F hm hb sc__law_machine (fun ds S Q h => by simp only [sp__law_machine] at h; first | (obtain ⟨rfl, _⟩ := h; rfl) | (obtain ⟨_, rfl, _⟩ := h; rfl) | (obtain ⟨_, _, rfl, _⟩ := h; rfl) | (obtain ⟨_, _, _, rfl, _⟩ := h; rfl) | (obtain ⟨_, _, _, _, rfl, _⟩ := h; rfl) | (obtain ⟨_, _, _, _, _, rfl, _⟩ := h; rfl) | (obtain ⟨_, _, _, _, _, _, rfl, _⟩ := h; rfl) | (obtain ⟨_, _, _, _, _, _, _, rfl, _⟩ := h; rfl) | (obtain ⟨_, _, _, _, _, _, _, _, rfl, _⟩ := h; rfl) | (obtain ⟨_, _, _, _, _, _, _, _, _, rfl, _⟩ := h; rfl) | (obtain ⟨_, _, _, _, _, _, _, _, _, _, rfl, _⟩ := h; rfl) | exact h.2) (fun cdv A outer s H E hr => dv__law_machine T hr) rd__law_machine
def sp__law_step : Sp3 := fun ds S Q => ∃ (k : Int) (taps st : List Int), ds = [.p (mach k taps), .p (tupI st)] ∧ Mach k taps ∧ Sta k taps st ∧ Q (.p (tupI (stepL k taps st))) S
def t__law_step : TS3 := tSeq3 (tAsgT3 (tVar3 0) (.tup (.cons (.nm 2) (.cons (.nm 3) (.nil))))) (tSeq3 (tSet3 4 (tC3 (.int 0))) (tSeq3 (tFor3 (tZipI3 (tCons3 (tVar3 3) (tCons3 (tVar3 1) (tNil3)))) (.tup (.cons (.nm 5) (.cons (.nm 6) (.nil)))) (tSet3 4 (tOp3 rAdd3 (tVar3 4) (tOp3 rMulT3 (tVar3 5) (tVar3 6))))) (tRet3 (tOp3 rAdd3 (tSl3 (tVar3 1) (tPart3 (tC3 (.int 1))) (tNoPart3)) (tTup3 (tCons3 (tOp3 rMod3 (tVar3 4) (tVar3 2)) (tNil3)))))))
theorem dv__law_step (T : Txt K mg base) {f : Addr} {cdv : Value} {A : Around} {outer : List Env} {s : Shared} {H : Hp} {E : XK} (hr : Room 0 (A.deeper (envOfC "_law_step" (defScope s__law_step) s.heap.objs.size f cdv))) : QSs (cxOf CX0 P w K mg base nm__law_step "_law_step" (defScope s__law_step) f cdv A outer s H E).nox (defBody s__law_step) t__law_step :=
  qss_cons (qs_asgT (qv 0) (qb_tup rfl (qbs_cons (qb_nm (i := 2) sc__law_step.nd rfl (by first | exact .inl rfl | exact .inr rfl)) (qbs_cons (qb_nm (i := 3) sc__law_step.nd rfl (by first | exact .inl rfl | exact .inr rfl)) (qbs_nil))))) (qss_cons (qs_set (i := 4) sc__law_step.nd rfl (by first | exact .inl rfl | exact .inr rfl) (qe_int)) (qss_cons (qs_for PassesOwn.never rfl (qi_zip rfl (by rfl) T.b_zip (qa_cons (qv 3) (qa_cons (qv 1) (qa_nil)))) (qb_tup rfl (qbs_cons (qb_nm (i := 5) sc__law_step.nd rfl (by first | exact .inl rfl | exact .inr rfl)) (qbs_cons (qb_nm (i := 6) sc__law_step.nd rfl (by first | exact .inl rfl | exact .inr rfl)) (qbs_nil)))) (qss_one (qs_set (i := 4) sc__law_step.nd rfl (by first | exact .inl rfl | exact .inr rfl) (qe_op oq_add (qv 4) (qe_op oq_mulT (qv 5) (qv 6)))))) (qss_one (qs_ret (qe_op oq_add (qe_slice (qv 1) (qo_some (qe_int)) (qo_none)) (qe_tup (qa_cons (qe_op oq_mod (qv 4) (qv 2)) (qa_nil))))))))
theorem rd__law_step : ∀ ds S Q, sp__law_step ds S Q → t__law_step { nx := fun _ S' => Fin3 S Q (.p .none) S', rt := Fin3 S Q } (env0 7 ds) S := by
  rintro _ S Q ⟨k, taps, st, rfl, M, h, q⟩
  have hp := M.pos
  unfold t__law_step mach tupI
  walk_at "rd"
  refine ⟨fun i e s => ∃ z z' : Option D, s = S ∧ e = [some (.p (.tuple [.int k, .tuple (taps.map PyData.int)])), some (.p (.tuple (st.map PyData.int))), some (.p (.int k)), some (.p (.tuple (taps.map PyData.int))), some (.p (.int (((taps.zip st).take i).map fun p => p.1 * p.2).sum)), z, z'], ⟨none, none, rfl, rfl⟩, fun _ _ _ _ => trivial, ?_, ?_⟩
  · rintro i d e s hd ⟨z, z', rfl, rfl⟩
    obtain ⟨a, b, h1, h2, rfl⟩ := zip3_get hd
    rw [List.getElem?_map] at h1 h2
    obtain ⟨x, hx, rfl⟩ := Option.map_eq_some_iff.mp h1
    obtain ⟨y, hy, rfl⟩ := Option.map_eq_some_iff.mp h2
    have hxm := M.ok x (List.mem_of_getElem? hx)
    walk_at "rd"
    refine ⟨.inl ⟨by omega, by omega⟩, wk_self ⟨some (.p (.int x)), some (.p (.int y)), rfl, ?_⟩⟩
    rw [take_one (show (taps.zip st)[i]? = some (x, y) from List.getElem?_zip_eq_some.mpr ⟨hx, hy⟩)]
    simp
  · rintro e s ⟨z, z', rfl, rfl⟩
    have hl : (zip3 (taps.map PyData.int) (st.map PyData.int)).length = (taps.zip st).length := by rw [zip3_len, List.length_zip, List.length_map, List.length_map]
    rw [hl, List.take_length]
    walk_at "rd"
    simp only [cut3_tail, tail_ints]
    walk_at "rd"
    have := h.len
    refine ⟨hp.1, by rw [List.length_tail]; omega, fin_p ?_⟩
    have e : List.map PyData.int st.tail ++ [PyData.int ((List.map (fun p : Int × Int => p.1 * p.2) (taps.zip st)).sum % k)] = List.map PyData.int (stepL k taps st) := by
      unfold stepL dotL
      rw [List.map_append]
      rfl
    rw [e]
    exact q
theorem ok__law_step (T : Txt K mg base) : Ok3 P w K mg base 1 "_law_step" sp__law_step := by
  obtain ⟨f, fd, F, hm, hb⟩ := T.f__law_step
  exact Ok3.mk' F hm hb sc__law_step (fun ds S Q h => by simp only [sp__law_step] at h; first | (obtain ⟨rfl, _⟩ := h; rfl) | (obtain ⟨_, rfl, _⟩ := h; rfl) | (obtain ⟨_, _, rfl, _⟩ := h; rfl) | (obtain ⟨_, _, _, rfl, _⟩ := h; rfl) | (obtain ⟨_, _, _, _, rfl, _⟩ := h; rfl) | (obtain ⟨_, _, _, _, _, rfl, _⟩ := h; rfl) | (obtain ⟨_, _, _, _, _, _, rfl, _⟩ := h; rfl) | (obtain ⟨_, _, _, _, _, _, _, rfl, _⟩ := h; rfl) | (obtain ⟨_, _, _, _, _, _, _, _, rfl, _⟩ := h; rfl) | (obtain ⟨_, _, _, _, _, _, _, _, _, rfl, _⟩ := h; rfl) | (obtain ⟨_, _, _, _, _, _, _, _, _, _, rfl, _⟩ := h; rfl) | exact h.2) (fun cdv A outer s H E hr => dv__law_step T hr) rd__law_step
def sp__law_round : Sp3 := fun ds S Q => ∃ (k : Int) (taps st : List Int) (p : Nat), ds = [.p (mach k taps), .p (tupI st)] ∧ Mach k taps ∧ Sta k taps st ∧ Per k taps st p ∧ Q (.p (.list ((List.range p).map fun j => tupI (itr k taps j st)))) S
def t__law_round : TS3 := tSeq3 (tPr3 2 3 (tCons3 (tOwn (tLst3 (tCons3 (tVar3 1) (tNil3)))) (tCons3 (tCB3 sp__law_step (tCons3 (tVar3 0) (tCons3 (tVar3 1) (tNil3)))) (tNil3)))) (tSeq3 (tWhile3 (tTest3 (tOp3 rNeS3 (tVar3 3) (tVar3 1))) (tSeq3 (tDrop3 (tApp3 (tVar3 2) (tVar3 3))) (tSet3 3 (tCB3 sp__law_step (tCons3 (tVar3 0) (tCons3 (tVar3 3) (tNil3))))))) (tFrz3 2 (tRet3 (tVar3 2))))
theorem dv__law_round (T : Txt K mg base) {f : Addr} {cdv : Value} {A : Around} {outer : List Env} {s : Shared} {H : Hp} {E : XK} (hr : Room 1 (A.deeper (envOfC "_law_round" (defScope s__law_round) s.heap.objs.size f cdv))) : QSs (cxOf CX0 P w K mg base nm__law_round "_law_round" (defScope s__law_round) f cdv A outer s H E).nox (defBody s__law_round) t__law_round :=
  qss_cons (qs_par (i := 2) (j := 3) rfl sc__law_round.nd rfl rfl (by decide) rfl rfl (qa_cons (qn_own (qn_lst (qa_cons (qv 1) (qa_nil)))) (qa_cons (qe_call (ok__law_step T) (hr.mono (by decide)) (by rfl) (qa_cons (qv 0) (qa_cons (qv 1) (qa_nil)))) (qa_nil))) (by rfl)) (qss_cons (qs_while PassesOwn.never (qt_cmp (oq_neS hr.units) (qv 3) (qv 1)) (qss_cons (qs_expr (qe_append (qv 2) (qv 3))) (qss_one (qs_set (i := 3) sc__law_round.nd rfl (by first | exact .inl rfl | exact .inr rfl) (qe_call (ok__law_step T) (hr.mono (by decide)) (by rfl) (qa_cons (qv 0) (qa_cons (qv 3) (qa_nil)))))))) (qss_frz 2 (qss_one (qs_ret (qv 2)))))
theorem rd__law_round : ∀ ds S Q, sp__law_round ds S Q → t__law_round { nx := fun _ S' => Fin3 S Q (.p .none) S', rt := Fin3 S Q } (env0 4 ds) S := by
  rintro _ S Q ⟨k, taps, st, p, rfl, M, h, P, q⟩
  unfold t__law_round sp__law_step
  walk_at "rd"
  refine ⟨k, taps, st, rfl, M, h, ?_⟩
  refine ⟨fun m e s => ∃ i, i + 1 ≤ p ∧ m = p - i ∧ e = [some (.p (mach k taps)), some (.p (tupI st)), some (.loc S.length), some (.p (tupI (itr k taps (i + 1) st)))] ∧ s = S ++ [some (.lst ((List.range (i + 1)).map fun j => tupI (itr k taps j st)))], ⟨_, 0, P.pos, rfl, rfl, rfl⟩, ?_⟩
  rintro m _ _ ⟨i, hi, rfl, rfl, rfl⟩
  have hs := h.itr M (i + 1)
  have sh : ∀ st, Sta k taps st → SeqAt.shaped (tupI st) = true := fun st h => (shows_tupI (n := 9) (fun x hx => by
    have := h.ok x hx
    have := M.pos
    omega) (by rw [h.len]; exact M.pos.2.2.2)).shaped (by decide)
  walk_at "rd"
  have e1 := sh _ hs
  have e2 := sh _ h
  unfold tupI at e1 e2
  unfold tupI
  walk_at "rd"
  have e3 := eqv_tupI (itr k taps (i + 1) st) st
  unfold tupI at e3
  rw [e3]
  refine ⟨⟨e1, e2⟩, ?_⟩
  by_cases hb : itr k taps (i + 1) st = st
  · rw [hb, decide_eq_true rfl]
    walk_at "rd"
    have hip : i + 1 = p := Classical.byContradiction fun hn => P.first (i + 1) (by omega) (by omega) hb
    unfold tFrz3
    walk_at "rd"
    simp only [List.getElem?_append_right (Nat.le_refl _), Nat.sub_self, List.getElem?_cons_zero]
    refine ⟨_, rfl, ?_⟩
    walk_at "rd"
    rw [hip]
    exact fin_of (by simp) q
  · rw [decide_eq_false hb]
    walk_at "rd"
    simp only [List.getElem?_append_right (Nat.le_refl _), Nat.sub_self, List.getElem?_cons_zero]
    have hip : i + 1 < p := by
      rcases Nat.lt_or_ge (i + 1) p with z | z
      · exact z
      · have : i + 1 = p := by omega
        rw [this] at hb
        exact absurd P.back hb
    have := P.few
    walk_at "rd"
    refine ⟨by simp; omega, k, taps, _, rfl, M, hs, wk_self ⟨p - (i + 1), by omega, i + 1, by omega, rfl, rfl, ?_⟩⟩
    rw [List.range_succ (n := i + 1), List.map_append]
    simp
theorem ok__law_round (T : Txt K mg base) : Ok3 P w K mg base 2 "_law_round" sp__law_round := by
  obtain ⟨f, fd, F, hm, hb⟩ := T.f__law_round
  exact Ok3.mk' F hm hb sc__law_round (fun ds S Q h => by simp only [sp__law_round] at h; first | (obtain ⟨rfl, _⟩ := h; rfl) | (obtain ⟨_, rfl, _⟩ := h; rfl) | (obtain ⟨_, _, rfl, _⟩ := h; rfl) | (obtain ⟨_, _, _, rfl, _⟩ := h; rfl) | (obtain ⟨_, _, _, _, rfl, _⟩ := h; rfl) | (obtain ⟨_, _, _, _, _, rfl, _⟩ := h; rfl) | (obtain ⟨_, _, _, _, _, _, rfl, _⟩ := h; rfl) | (obtain ⟨_, _, _, _, _, _, _, rfl, _⟩ := h; rfl) | (obtain ⟨_, _, _, _, _, _, _, _, rfl, _⟩ := h; rfl) | (obtain ⟨_, _, _, _, _, _, _, _, _, rfl, _⟩ := h; rfl) | (obtain ⟨_, _, _, _, _, _, _, _, _, _, rfl, _⟩ := h; rfl) | exact h.2) (fun cdv A outer s H E hr => dv__law_round T hr) rd__law_round
def sp__law_pattern : Sp3 := fun ds S Q => ∃ (n : Nat) (b : Int), ds = [.loc n, .p (.int 8)] ∧ HdB S n b ∧ b ≤ 1000000 ∧ ∀ pat S', pat ≠ [] → pat.length ≤ 8 → (∀ m ∈ pat, m ≤ 1000000) → HdTo n S S' → HdB S' n (b + 70) → Q (.p (tupI (patI pat))) S'
def t__law_pattern_b1 : TS3 := tSeq3 (tPr3 5 6 (tCons3 (tCB3 sp__law_take (tCons3 (tVar3 0) (tCons3 (tC3 (.int 8)) (tNil3)))) (tCons3 (tCB3 sp__law_take (tCons3 (tVar3 0) (tCons3 (tC3 (.int 12)) (tNil3)))) (tNil3)))) (tSeq3 (tSet3 7 (tOp3 rSub3 (tOp3 rPow3 (tC3 (.int 10)) (tC3 (.int 6))) (tCB3 sp__law_take (tCons3 (tVar3 0) (tCons3 (tC3 (.int 600)) (tNil3)))))) (tSeq3 (tSet3 8 (tPure (tLst3 (tCons3 (tVar3 6) (tCons3 (tVar3 6) (tCons3 (tVar3 6) (tCons3 (tVar3 6) (tCons3 (tCB3 sp__law_take (tCons3 (tVar3 0) (tCons3 (tC3 (.int 601)) (tNil3)))) (tNil3))))))))) (tSeq3 (tSet3 8 (tOp3 rAdd3 (tVar3 8) (tPure (tLst3 (tCons3 (tVar3 7) (tCons3 (tC3 (.int 0)) (tCons3 (tCB3 (rSumA3) (tCons3 (tSl3 (tVar3 2) (tNoPart3) (tPart3 (tC3 (.int 1)))) (tNil3))) (tNil3)))))))) (tSet3 2 (tOp3 rAdd3 (tVar3 2) (tTup3 (tCons3 (tOp3 rIx3 (tVar3 8) (tVar3 5)) (tNil3))))))))
def t__law_pattern : TS3 := tSeq3 (tPr3 2 3 (tCons3 (tTup3 (tNil3)) (tCons3 (tPure (tLst3 (tCons3 (tC3 (.int 1)) (tCons3 (tC3 (.int 2)) (tCons3 (tC3 (.int 3)) (tCons3 (tOp3 rDiv3 (tVar3 1) (tC3 (.int 2))) (tCons3 (tVar3 1) (tCons3 (tOp3 rAdd3 (tC3 (.int 1)) (tCB3 sp__law_take (tCons3 (tVar3 0) (tCons3 (tVar3 1) (tNil3))))) (tNil3))))))))) (tNil3)))) (tSeq3 (tFor3 (tRng1 (tCons3 (tCB3 sp__law_pick (tCons3 (tVar3 0) (tCons3 (tVar3 3) (tNil3)))) (tNil3))) (.nm 4) (t__law_pattern_b1)) (tRet3 (tVar3 2)))
theorem dv__law_pattern (T : Txt K mg base) {f : Addr} {cdv : Value} {A : Around} {outer : List Env} {s : Shared} {H : Hp} {E : XK} (hr : Room 2 (A.deeper (envOfC "_law_pattern" (defScope s__law_pattern) s.heap.objs.size f cdv))) : QSs (cxOf CX0 P w K mg base nm__law_pattern "_law_pattern" (defScope s__law_pattern) f cdv A outer s H E).nox (defBody s__law_pattern) t__law_pattern :=
  qss_cons (qs_par (i := 2) (j := 3) rfl sc__law_pattern.nd rfl rfl (by decide) rfl rfl (qa_cons (qe_tup (qa_nil)) (qa_cons (qn_pure (qn_lst (qa_cons (qe_int) (qa_cons (qe_int) (qa_cons (qe_int) (qa_cons (qe_op oq_div (qv 1) (qe_int)) (qa_cons (qv 1) (qa_cons (qe_op oq_add (qe_int) (qe_call (ok__law_take T) (hr.mono (by decide)) (by rfl) (qa_cons (qv 0) (qa_cons (qv 1) (qa_nil))))) (qa_nil))))))))) (qa_nil))) (by rfl)) (qss_cons (qs_for PassesOwn.never rfl (qi_range1 (by rfl) T.b_range (qa_cons (qe_call (ok__law_pick T) (hr.mono (by decide)) (by rfl) (qa_cons (qv 0) (qa_cons (qv 3) (qa_nil)))) (qa_nil))) (qb_nm (i := 4) sc__law_pattern.nd rfl (by first | exact .inl rfl | exact .inr rfl)) (qss_cons (qs_par (i := 5) (j := 6) rfl sc__law_pattern.nd rfl rfl (by decide) rfl rfl (qa_cons (qe_call (ok__law_take T) (hr.mono (by decide)) (by rfl) (qa_cons (qv 0) (qa_cons (qe_int) (qa_nil)))) (qa_cons (qe_call (ok__law_take T) (hr.mono (by decide)) (by rfl) (qa_cons (qv 0) (qa_cons (qe_int) (qa_nil)))) (qa_nil))) (by rfl)) (qss_cons (qs_set (i := 7) sc__law_pattern.nd rfl (by first | exact .inl rfl | exact .inr rfl) (qe_op oq_sub (qe_op oq_pow (qe_int) (qe_int)) (qe_call (ok__law_take T) (hr.mono (by decide)) (by rfl) (qa_cons (qv 0) (qa_cons (qe_int) (qa_nil)))))) (qss_cons (qs_set (i := 8) sc__law_pattern.nd rfl (by first | exact .inl rfl | exact .inr rfl) (qn_pure (qn_lst (qa_cons (qv 6) (qa_cons (qv 6) (qa_cons (qv 6) (qa_cons (qv 6) (qa_cons (qe_call (ok__law_take T) (hr.mono (by decide)) (by rfl) (qa_cons (qv 0) (qa_cons (qe_int) (qa_nil)))) (qa_nil))))))))) (qss_cons (qs_set (i := 8) sc__law_pattern.nd rfl (by first | exact .inl rfl | exact .inr rfl) (qe_op oq_add (qv 8) (qn_pure (qn_lst (qa_cons (qv 7) (qa_cons (qe_int) (qa_cons (qe_cb (cq_sumA rfl) (by rfl) T.b_sum (by decide +kernel) (qa_cons (qe_slice (qv 2) (qo_none) (qo_some (qe_int))) (qa_nil))) (qa_nil)))))))) (qss_one (qs_set (i := 2) sc__law_pattern.nd rfl (by first | exact .inl rfl | exact .inr rfl) (qe_op oq_add (qv 2) (qe_tup (qa_cons (qe_ix iq_seq (qv 8) (qv 5)) (qa_nil))))))))))) (qss_one (qs_ret (qv 2))))
theorem rd__law_pattern : ∀ ds S Q, sp__law_pattern ds S Q → t__law_pattern { nx := fun _ S' => Fin3 S Q (.p .none) S', rt := Fin3 S Q } (env0 9 ds) S := by
  rintro _ S Q ⟨n, b, rfl, hd, hb, q⟩
  unfold t__law_pattern sp__law_take sp__law_pick
  walk_at "rd"
  refine ⟨⟨by decide, .inl (by decide)⟩, n, 8, b, rfl, by omega, by omega, hd, by omega, fun d1 S1 a1 b1 t1 hd1 => ?_⟩
  walk_at "rd"
  refine ⟨n, b + 1, _, rfl, by simp, by simp, hd1, by omega, fun x S2 hx t2 hd2 => ?_⟩
  obtain ⟨x, rfl, hx1, hx2⟩ : ∃ y : Int, x = .int y ∧ 1 ≤ y ∧ y ≤ 8 := by
    simp only [List.mem_cons, List.not_mem_nil, or_false] at hx
    rcases hx with rfl | rfl | rfl | rfl | rfl | rfl
    · exact ⟨_, rfl, by decide, by decide⟩
    · exact ⟨_, rfl, by decide, by decide⟩
    · exact ⟨_, rfl, by decide, by decide⟩
    · exact ⟨_, rfl, by decide, by decide⟩
    · exact ⟨_, rfl, by decide, by decide⟩
    · exact ⟨_, rfl, by omega, by omega⟩
  walk_at "rd"
  refine ⟨by omega, ?_⟩
  have tt := t1.trans t2
  refine ⟨fun t e s => ∃ (pat : List Nat) (z4 z5 z6 z7 z8 : Option D), pat.length = t ∧ (∀ m ∈ pat, m ≤ 1000000) ∧ HdTo n S s ∧ HdB s n (b + 2 + 4 * t) ∧ e = [some (.loc n), some (.p (.int 8)), some (.p (tupI (patI pat))), some (.p (.list [.int 1, .int 2, .int 3, .int (8 / 2), .int 8, .int (1 + d1)])), z4, z5, z6, z7, z8], ⟨[], none, none, none, none, none, rfl, (fun m hm => nomatch hm), tt, hd2.le (by omega), rfl⟩, fun _ _ _ _ => trivial, ?_, ?_⟩
  · rintro i d e s hdi ⟨pat, z4, z5, z6, z7, z8, hpl, hpb, ts, hds, rfl⟩
    obtain ⟨hi, rfl⟩ := rng_get hdi
    walk_at "rd"
    refine ⟨n, 8, _, rfl, by omega, by omega, hds, by omega, fun d2 S3 a2 b2 t3 hd3 => ?_⟩
    refine ⟨n, 12, _, rfl, by omega, by omega, hd3, by omega, fun d3 S4 a3 b3 t4 hd4 => ?_⟩
    walk_at "cj"
    refine ⟨n, 600, _, rfl, by omega, by omega, hd4, by omega, fun d4 S5 a4 b4 t5 hd5 => ?_⟩
    walk_at "rd"
    refine ⟨n, 601, _, rfl, by omega, by omega, hd5, by omega, fun d5 S6 a5 b5 t6 hd6 => ?_⟩
    unfold tupI
    walk_at "rd"
    have hc : cut3 ((patI pat).map PyData.int) none (some 1) = ((patI pat).take 1).map PyData.int := by
      rw [show (some (1 : Int)) = some ((1 : Nat) : Int) from rfl, cut3_take, List.map_take]
    simp only [hc, allP_ints]
    obtain ⟨m, hm, hm2⟩ : ∃ m : Nat, ((patI pat).take 1).sum = (m : Int) ∧ m ≤ 1000000 := by
      cases pat with
      | nil => exact ⟨0, rfl, by decide⟩
      | cons y pat => exact ⟨y, by simp [patI], hpb y List.mem_cons_self⟩
    rw [hm]
    walk_at "rd"
    obtain ⟨j3, rfl⟩ := Int.eq_ofNat_of_zero_le a3
    obtain ⟨j4, rfl⟩ := Int.eq_ofNat_of_zero_le a4
    obtain ⟨j5, rfl⟩ := Int.eq_ofNat_of_zero_le a5
    obtain ⟨v, hv, hv2⟩ : ∃ v : Nat, atI [PyData.int (j3 : Int), PyData.int (j3 : Int), PyData.int (j3 : Int), PyData.int (j3 : Int), PyData.int (j5 : Int), PyData.int (1000000 - (j4 : Int)), PyData.int 0, PyData.int (m : Int)] d2 = some (.int (v : Int)) ∧ v ≤ 1000000 := by
      obtain ⟨j, rfl⟩ := Int.eq_ofNat_of_zero_le a2
      match j, b2 with
      | 0, _ => exact ⟨j3, rfl, by omega⟩
      | 1, _ => exact ⟨j3, rfl, by omega⟩
      | 2, _ => exact ⟨j3, rfl, by omega⟩
      | 3, _ => exact ⟨j3, rfl, by omega⟩
      | 4, _ => exact ⟨j5, rfl, by omega⟩
      | 5, _ => exact ⟨1000000 - j4, by rw [show ((1000000 - j4 : Nat) : Int) = 1000000 - (j4 : Int) by omega]; rfl, by omega⟩
      | 6, _ => exact ⟨0, rfl, by decide⟩
      | 7, _ => exact ⟨m, rfl, hm2⟩
      | j + 8, h => omega
    simp only [hv]
    walk_at "rd"
    have ep : List.map PyData.int (patI pat) ++ [PyData.int (v : Int)] = List.map PyData.int (patI (pat ++ [v])) := by simp [patI]
    rw [ep]
    refine ⟨by unfold patI; rw [List.length_map]; omega, wk_self ⟨pat ++ [v], _, _, _, _, _, by simp [hpl], fun m' hm' => ?_, (((ts.trans t3).trans t4).trans t5).trans t6, hd6.le (by omega), rfl⟩⟩
    rcases List.mem_append.mp hm' with h | h
    · exact hpb m' h
    · rw [List.mem_singleton] at h
      omega
  · rintro e s ⟨pat, z4, z5, z6, z7, z8, hpl, hpb, ts, hds, rfl⟩
    rw [rng_len] at hpl hds
    walk_at "rd"
    exact fin_hd ts (q pat s (fun z => by rw [z] at hpl; simp at hpl; omega) (by omega) hpb ts (hds.le (by omega)))
theorem ok__law_pattern (T : Txt K mg base) : Ok3 P w K mg base 3 "_law_pattern" sp__law_pattern := by
  obtain ⟨f, fd, F, hm, hb⟩ := T.f__law_pattern
  exact Ok3.mk' F hm hb sc__law_pattern (fun ds S Q h => by simp only [sp__law_pattern] at h; first | (obtain ⟨rfl, _⟩ := h; rfl) | (obtain ⟨_, rfl, _⟩ := h; rfl) | (obtain ⟨_, _, rfl, _⟩ := h; rfl) | (obtain ⟨_, _, _, rfl, _⟩ := h; rfl) | (obtain ⟨_, _, _, _, rfl, _⟩ := h; rfl) | (obtain ⟨_, _, _, _, _, rfl, _⟩ := h; rfl) | (obtain ⟨_, _, _, _, _, _, rfl, _⟩ := h; rfl) | (obtain ⟨_, _, _, _, _, _, _, rfl, _⟩ := h; rfl) | (obtain ⟨_, _, _, _, _, _, _, _, rfl, _⟩ := h; rfl) | (obtain ⟨_, _, _, _, _, _, _, _, _, rfl, _⟩ := h; rfl) | (obtain ⟨_, _, _, _, _, _, _, _, _, _, rfl, _⟩ := h; rfl) | exact h.2) (fun cdv A outer s H E hr => dv__law_pattern T hr) rd__law_pattern
def sp__law_states : Sp3 := fun ds S Q => ∃ (k : Nat) (taps : List Int), ds = [.p (mach (k : Int) taps)] ∧ 0 < k ∧ k ≤ 600 ∧ 0 < taps.length ∧ taps.length ≤ 40 ∧ k ^ taps.length ≤ 600 ∧ ∀ (m : Nat) S', S.length ≤ m → S'[m]? = some (some (.lst ((wordsL k taps.length).map tupI))) → S'.take S.length = S → S.length ≤ S'.length → Q (.loc m) S'
def t__law_states_b2 : TS3 := tDrop3 (tExt3 (tVar3 5) (tLc3 (tRng1 (tCons3 (tVar3 1) (tNil3))) (.nm 7) (tYes3) (tOp3 rAdd3 (tVar3 6) (tTup3 (tCons3 (tVar3 7) (tNil3)))) [7]))
def t__law_states_b1 : TS3 := tSeq3 (tSet3 5 (tOwn (tLst3 (tNil3)))) (tSeq3 (tFor3 (tSeqI3 (tVar3 3)) (.nm 6) (t__law_states_b2)) (tSet3 3 (tVar3 5)))
def t__law_states : TS3 := tSeq3 (tAsgT3 (tVar3 0) (.tup (.cons (.nm 1) (.cons (.nm 2) (.nil))))) (tSeq3 (tSet3 3 (tPure (tLst3 (tCons3 (tTup3 (tNil3)) (tNil3))))) (tSeq3 (tFor3 (tSeqI3 (tVar3 2)) (.nm 4) (t__law_states_b1)) (tRet3 (tVar3 3))))
theorem dv__law_states (T : Txt K mg base) {f : Addr} {cdv : Value} {A : Around} {outer : List Env} {s : Shared} {H : Hp} {E : XK} (hr : Room 0 (A.deeper (envOfC "_law_states" (defScope s__law_states) s.heap.objs.size f cdv))) : QSs (cxOf CX0 P w K mg base nm__law_states "_law_states" (defScope s__law_states) f cdv A outer s H E).nox (defBody s__law_states) t__law_states :=
  qss_cons (qs_asgT (qv 0) (qb_tup rfl (qbs_cons (qb_nm (i := 1) sc__law_states.nd rfl (by first | exact .inl rfl | exact .inr rfl)) (qbs_cons (qb_nm (i := 2) sc__law_states.nd rfl (by first | exact .inl rfl | exact .inr rfl)) (qbs_nil))))) (qss_cons (qs_set (i := 3) sc__law_states.nd rfl (by first | exact .inl rfl | exact .inr rfl) (qn_pure (qn_lst (qa_cons (qe_tup (qa_nil)) (qa_nil))))) (qss_cons (qs_for PassesOwn.never rfl (qi_seq (qv 2)) (qb_nm (i := 4) sc__law_states.nd rfl (by first | exact .inl rfl | exact .inr rfl)) (qss_cons (qs_set (i := 5) sc__law_states.nd rfl (by first | exact .inl rfl | exact .inr rfl) (qn_own (qn_lst (qa_nil)))) (qss_cons (qs_for PassesOwn.never rfl (qi_seq (qv 3)) (qb_nm (i := 6) sc__law_states.nd rfl (by first | exact .inl rfl | exact .inr rfl)) (qss_one (qs_expr (qe_extend (qv 5) (qn_lc (own := [("_law_number", 7)]) rfl sc__law_states.nd (qi_range1 (by rfl) T.b_range (qa_cons (qv 1) (qa_nil))) (blkOk_by (own := [("_law_number", 7)]) (N := nm__law_states) (sc := defScope s__law_states) (by decide +kernel)) (fun _ _ _ _ _ => qb_nm (i := 7) sc__law_states.nd rfl (by first | exact .inl rfl | exact .inr rfl)) (fun _ _ _ _ _ => qts_nil) (fun _ _ _ _ _ => qe_op oq_add (qv 6) (qe_tup (qa_cons (qv 7) (qa_nil))))))))) (qss_one (qs_set (i := 3) sc__law_states.nd rfl (by first | exact .inl rfl | exact .inr rfl) (qv 5)))))) (qss_one (qs_ret (qv 3)))))
theorem rd__law_states : ∀ ds S Q, sp__law_states ds S Q → t__law_states { nx := fun _ S' => Fin3 S Q (.p .none) S', rt := Fin3 S Q } (env0 8 ds) S := by
  rintro _ S Q ⟨k, taps, rfl, k0, k1, l0, l1, hp, q⟩
  have hpl : ∀ j, j ≤ taps.length → k ^ j ≤ 600 := fun j hj => Nat.le_trans (Nat.pow_le_pow_right k0 hj) hp
  unfold t__law_states mach
  unfold tupI at q ⊢
  walk_at "rd"
  generalize PyData.tuple [PyData.int (k : Int), PyData.tuple (taps.map PyData.int)] = mm
  refine ⟨fun t e s => ∃ (d : D) (z3 z4 z5 : Option D), t ≤ taps.length ∧ e = [some (.p mm), some (.p (.int (k : Nat))), some (.p (.tuple (taps.map PyData.int))), some d, z3, z4, z5, none] ∧ HasL S.length s d (wordsL k t) ∧ (0 < t → ∃ m, d = .loc m) ∧ s.take S.length = S ∧ S.length ≤ s.length, ⟨_, none, none, none, Nat.zero_le _, rfl, .inl rfl, by simp, List.take_length, Nat.le_refl _⟩, fun _ _ _ _ => trivial, ?_, ?_⟩
  · rintro t d' e s hi ⟨d, z3, z4, z5, _, rfl, hH, _, hS, hSl⟩
    rw [List.getElem?_map] at hi
    obtain ⟨tp, htp, rfl⟩ := Option.map_eq_some_iff.mp hi
    have ht : t < taps.length := (List.getElem?_eq_some_iff.mp htp).1
    unfold t__law_states_b1
    walk_at "rd"
    have body : ∀ (D : N3) (d z3 : Option L3.D) (i : Nat) (w : List Int) (s1 : S3), (wordsL k t)[i]? = some w → s1[s.length]? = some (some (.lst ((((wordsL k t).take i).flatMap (extW k)).map tupI))) → s1.take s.length = s → s1.length = s.length + 1 →
        (∀ (s2 : S3), s2[s.length]? = some (some (.lst ((((wordsL k t).take (i + 1)).flatMap (extW k)).map tupI))) → s2.take s.length = s → s2.length = s.length + 1 → D.nx [some (.p mm), some (.p (.int (k : Nat))), some (.p (.tuple (taps.map PyData.int))), d, z3, some (.loc s.length), some (.p (tupI w)), none] s2) →
        t__law_states_b2 D [some (.p mm), some (.p (.int (k : Nat))), some (.p (.tuple (taps.map PyData.int))), d, z3, some (.loc s.length), some (.p (tupI w)), none] s1 := by
      intro D d z3 i w s1 hw g1 g2 g3 hD
      have hwl := wordsL_long k t w (List.mem_of_getElem? hw)
      have hil : i < (wordsL k t).length := (List.getElem?_eq_some_iff.mp hw).1
      rw [wordsL_len] at hil
      have hb1 := hpl t (by omega)
      unfold t__law_states_b2
      walk_at "rd"
      simp only [g1]
      walk_at "rd"
      refine ⟨by omega, fun a acc s2 => s2 = s1 ∧ acc = ((List.range a).map fun (d : Nat) => w ++ [((d : Nat) : Int)]).map tupI, ⟨rfl, rfl⟩, fun _ _ _ _ => trivial, ?_, ?_⟩
      · rintro a d acc s2 ha ⟨rfl, rfl⟩
        obtain ⟨ha, rfl⟩ := rng_get ha
        rw [show tupI w = .tuple (w.map PyData.int) from rfl]
        walk_at "rd"
        refine ⟨by rw [hwl]; omega, ?_⟩
        rw [List.range_succ, List.map_append, List.map_append, Int.zero_add]
        congr 1
        simp [tupI]
      · rintro acc s2 ⟨rfl, rfl⟩
        rw [rng_len, Int.toNat_natCast]
        simp only [g1]
        have hfl : (((wordsL k t).take i).flatMap (extW k)).length ≤ 600 * 600 := by
          rw [flatMap_len_le (extW k) k (fun a => by unfold extW; rw [List.length_map, List.length_range])]
          rw [List.length_take]
          exact Nat.mul_le_mul (by omega) k1
        refine ⟨by simp only [List.length_map, List.length_range]; omega, hD _ ?_ (by rw [take_set_ge']; exact g2) (by rw [List.length_set]; exact g3)⟩
        rw [List.getElem?_set_self (by omega), flatMap_take (extW k) hw, List.map_append]
        rfl
    have inv0 : ∀ (d z3 : Option L3.D), ∃ z5' : Option L3.D, [some (.p mm), some (.p (.int (k : Nat))), some (.p (.tuple (taps.map PyData.int))), d, z3, some (.loc s.length), z5, none] = [some (.p mm), some (.p (.int (k : Nat))), some (.p (.tuple (taps.map PyData.int))), d, z3, some (.loc s.length), z5', none] ∧ (s ++ [some (O3.lst [])])[s.length]? = some (some (.lst ((((wordsL k t).take 0).flatMap (extW k)).map tupI))) ∧ (s ++ [some (O3.lst [])]).take s.length = s ∧ (s ++ [some (O3.lst [])]).length = s.length + 1 := fun d z3 => ⟨_, rfl, by simp, by simp, by simp⟩
    have done : ∀ (s1 : S3), s1[s.length]? = some (some (.lst ((((wordsL k t).take (wordsL k t).length).flatMap (extW k)).map tupI))) → s1.take s.length = s → s1.length = s.length + 1 → HasL S.length s1 (.loc s.length) (wordsL k (t + 1)) ∧ s1.take S.length = S ∧ S.length ≤ s1.length := fun s1 a1 a2 a3 => by
      rw [List.take_length, ← wordsL_succ] at a1
      refine ⟨.inr ⟨_, rfl, hSl, a1⟩, ?_, by omega⟩
      have e := congrArg (List.take S.length) a2
      rw [List.take_take, Nat.min_eq_left hSl, hS] at e
      exact e
    rcases hH with rfl | ⟨m, rfl, hm, hsm⟩
    · walk_at "rd"
      refine ⟨fun i e s1 => ∃ z5 : Option D, e = [some (.p mm), some (.p (.int (k : Nat))), some (.p (.tuple (taps.map PyData.int))), some (.p (.list ((wordsL k t).map tupI))), some (.p (.int tp)), some (.loc s.length), z5, none] ∧ s1[s.length]? = some (some (.lst ((((wordsL k t).take i).flatMap (extW k)).map tupI))) ∧ s1.take s.length = s ∧ s1.length = s.length + 1, inv0 _ _, fun _ _ _ _ => trivial, ?_, ?_⟩
      · rintro i x e s1 hx ⟨z5, rfl, g1, g2, g3⟩
        rw [List.getElem?_map] at hx
        obtain ⟨w, hw, rfl⟩ := Option.map_eq_some_iff.mp hx
        exact body _ _ _ i w s1 hw g1 g2 g3 fun s2 a1 a2 a3 => by dsimp only; exact wk_self ⟨_, rfl, a1, a2, a3⟩
      · rintro e s1 ⟨z5, rfl, g1, g2, g3⟩
        obtain ⟨b1, b2, b3⟩ := done s1 g1 g2 g3
        exact wk_self ⟨_, _, _, _, by omega, rfl, b1, fun _ => ⟨_, rfl⟩, b2, b3⟩
    · have hml := (List.getElem?_eq_some_iff.mp hsm).1
      walk_at "rd"
      refine ⟨(wordsL k t).map tupI, by rw [List.getElem?_append_left hml]; exact hsm, fun i e s1 => ∃ z5 : Option D, e = [some (.p mm), some (.p (.int (k : Nat))), some (.p (.tuple (taps.map PyData.int))), some (.loc m), some (.p (.int tp)), some (.loc s.length), z5, none] ∧ s1[s.length]? = some (some (.lst ((((wordsL k t).take i).flatMap (extW k)).map tupI))) ∧ s1.take s.length = s ∧ s1.length = s.length + 1, inv0 _ _, ?_, ?_, ?_⟩
      · rintro i e s1 ⟨z5, rfl, g1, g2, g3⟩
        rw [← List.getElem?_take_of_lt hml, g2]
        exact hsm
      · rintro i x e s1 hx ⟨z5, rfl, g1, g2, g3⟩
        rw [List.getElem?_map] at hx
        obtain ⟨w, hw, rfl⟩ := Option.map_eq_some_iff.mp hx
        exact body _ _ _ i w s1 hw g1 g2 g3 fun s2 a1 a2 a3 => by dsimp only; exact wk_self ⟨_, rfl, a1, a2, a3⟩
      · rintro e s1 ⟨z5, rfl, g1, g2, g3⟩
        rw [List.length_map] at g1
        obtain ⟨b1, b2, b3⟩ := done s1 g1 g2 g3
        exact wk_self ⟨_, _, _, _, by omega, rfl, b1, fun _ => ⟨_, rfl⟩, b2, b3⟩
  · rintro e s ⟨d, z3, z4, z5, _, rfl, hH, hd, hS, hSl⟩
    try rw [List.length_map] at hH hd
    obtain ⟨m, rfl⟩ := hd l0
    rcases hH with h | ⟨m', h, hm, hsm⟩
    · cases h
    · cases h
      walk_at "rd"
      have hml := (List.getElem?_eq_some_iff.mp hsm).1
      exact fin_all hSl hml (q m s hm hsm hS hSl)
theorem ok__law_states (T : Txt K mg base) : Ok3 P w K mg base 1 "_law_states" sp__law_states := by
  obtain ⟨f, fd, F, hm, hb⟩ := T.f__law_states
  exact Ok3.mk' F hm hb sc__law_states (fun ds S Q h => by simp only [sp__law_states] at h; first | (obtain ⟨rfl, _⟩ := h; rfl) | (obtain ⟨_, rfl, _⟩ := h; rfl) | (obtain ⟨_, _, rfl, _⟩ := h; rfl) | (obtain ⟨_, _, _, rfl, _⟩ := h; rfl) | (obtain ⟨_, _, _, _, rfl, _⟩ := h; rfl) | (obtain ⟨_, _, _, _, _, rfl, _⟩ := h; rfl) | (obtain ⟨_, _, _, _, _, _, rfl, _⟩ := h; rfl) | (obtain ⟨_, _, _, _, _, _, _, rfl, _⟩ := h; rfl) | (obtain ⟨_, _, _, _, _, _, _, _, rfl, _⟩ := h; rfl) | (obtain ⟨_, _, _, _, _, _, _, _, _, rfl, _⟩ := h; rfl) | (obtain ⟨_, _, _, _, _, _, _, _, _, _, rfl, _⟩ := h; rfl) | exact h.2) (fun cdv A outer s H E hr => dv__law_states T hr) rd__law_states
def sp__law_places : Sp3 := fun ds S Q => ∃ (k : Int) (taps : List Int), ds = [.p (mach k taps)] ∧ Mach k taps ∧ ∀ (m : Nat) (kvs : List (List Key × PyData)) S', Plc k taps kvs → KyS k taps kvs → S.length ≤ m → S'[m]? = some (some (.dic kvs)) → S'.take S.length = S → S.length ≤ S'.length → Q (.loc m) S'
def t__law_places_b2 : TS3 := tTPut3 (tTup3 (tCons3 (tVar3 3) (tCons3 (tVar3 4) (tNil3)))) (tVar3 1) (tVar3 5)
def t__law_places_b1 : TS3 := tIfS3 (tTest3 (tTIn3 true (tVar3 2) (tVar3 1))) (tSeq3 (tSet3 3 (tCB3 sp__law_round (tCons3 (tVar3 0) (tCons3 (tVar3 2) (tNil3))))) (tFor3 (tEnumA3 (tCons3 (tVar3 3) (tNil3))) (.tup (.cons (.nm 4) (.cons (.nm 5) (.nil)))) (t__law_places_b2))) (tNext3)
def t__law_places : TS3 := tSeq3 (tSet3 1 (tTNew3)) (tSeq3 (tFor3 (tSeqI3 (tCB3 sp__law_states (tCons3 (tVar3 0) (tNil3)))) (.nm 2) (t__law_places_b1)) (tRet3 (tVar3 1)))
theorem dv__law_places (T : Txt K mg base) {f : Addr} {cdv : Value} {A : Around} {outer : List Env} {s : Shared} {H : Hp} {E : XK} (hr : Room 2 (A.deeper (envOfC "_law_places" (defScope s__law_places) s.heap.objs.size f cdv))) : QSs (cxOf CX0 P w K mg base nm__law_places "_law_places" (defScope s__law_places) f cdv A outer s H E).nox (defBody s__law_places) t__law_places :=
  qss_cons (qs_set (i := 1) sc__law_places.nd rfl (by first | exact .inl rfl | exact .inr rfl) (qe_tnew)) (qss_cons (qs_for PassesOwn.never rfl (qi_seq (qe_call (ok__law_states T) (hr.mono (by decide)) (by rfl) (qa_cons (qv 0) (qa_nil)))) (qb_nm (i := 2) sc__law_places.nd rfl (by first | exact .inl rfl | exact .inr rfl)) (qss_one (qs_if (qt_tnotin T.nt hr.units (qv 2) (qv 1)) (qss_cons (qs_set (i := 3) sc__law_places.nd rfl (by first | exact .inl rfl | exact .inr rfl) (qe_call (ok__law_round T) (hr.mono (by decide)) (by rfl) (qa_cons (qv 0) (qa_cons (qv 2) (qa_nil))))) (qss_one (qs_for PassesOwn.never rfl (qi_enumA rfl (by rfl) T.b_enumerate (qa_cons (qv 3) (qa_nil))) (qb_tup rfl (qbs_cons (qb_nm (i := 4) sc__law_places.nd rfl (by first | exact .inl rfl | exact .inr rfl)) (qbs_cons (qb_nm (i := 5) sc__law_places.nd rfl (by first | exact .inl rfl | exact .inr rfl)) (qbs_nil)))) (qss_one (qs_tput T.nt hr.units (qe_tup (qa_cons (qv 3) (qa_cons (qv 4) (qa_nil)))) (qv 1) (qv 5)))))) (qss_nil)))) (qss_one (qs_ret (qv 1))))
theorem rd__law_places : ∀ ds S Q, sp__law_places ds S Q → t__law_places { nx := fun _ S' => Fin3 S Q (.p .none) S', rt := Fin3 S Q } (env0 6 ds) S := by
  rintro _ S Q ⟨k, taps, rfl, M, q⟩
  have hmp := M.pos
  have hfew := M.few
  obtain ⟨K, rfl⟩ := Int.eq_ofNat_of_zero_le (Int.le_of_lt hmp.1)
  rw [Int.toNat_natCast] at hfew
  unfold t__law_places sp__law_states
  walk_at "rd"
  refine ⟨K, taps, rfl, by omega, by omega, by omega, by omega, by omega, fun m S1 hm hS1 hS1t hS1l => ?_⟩
  walk_at "rd"
  have hml : m < S1.length := (List.getElem?_eq_some_iff.mp hS1).1
  simp only [List.length_append, List.length_singleton] at hm hS1t hS1l
  have hd0 : S1[S.length]? = some (some (O3.dic [])) := by
    have h1 := congrArg (fun l : L3.S3 => l[S.length]?) hS1t
    simp only [List.getElem?_take_of_lt (Nat.lt_succ_self _)] at h1
    rw [h1]
    simp
  have hS0 : S1.set S.length (some (.dic [])) = S1 := by
    obtain ⟨g3, g4⟩ := List.getElem?_eq_some_iff.mp hd0
    rw [← g4, List.set_getElem_self]
  have gm : ∀ x : Option O3, (S1.set S.length x)[m]? = some (some (.lst ((wordsL K taps.length).map tupI))) := fun x => by rw [List.getElem?_set_ne (by omega)]; exact hS1
  have gd : ∀ x : Option O3, (S1.set S.length x)[S.length]? = some x := fun x => List.getElem?_set_self (by omega)
  have wlen := wordsL_len K taps.length
  refine ⟨_, hS1, fun i e s => ∃ (kvs : List (List Key × PyData)) (z2 z3 z4 z5 : Option D), s = S1.set S.length (some (.dic kvs)) ∧ KyS (K : Int) taps kvs ∧ (∀ v d, valE kvs (kK v) = some d → PlE (K : Int) taps v d) ∧ (∀ v ∈ (wordsL K taps.length).take i, (valE kvs (kK v)).isSome = true) ∧ kvs.length ≤ 600 * i ∧ e = [some (.p (mach (K : Int) taps)), some (.loc S.length), z2, z3, z4, z5], ⟨[], none, none, none, none, hS0.symm, KyS.nil _ _, (fun v d h => by simp [valE] at h), (fun v hv => by simp at hv), Nat.zero_le _, rfl⟩, ?_, ?_, ?_⟩
  · rintro i e s ⟨kvs, z2, z3, z4, z5, rfl, hY, hA, hB, hC, rfl⟩
    exact gm _
  · rintro i x e s hx ⟨kvs, z2, z3, z4, z5, rfl, hY, hA, hB, hC, rfl⟩
    rw [List.getElem?_map] at hx
    obtain ⟨v, hv, rfl⟩ := Option.map_eq_some_iff.mp hx
    have hil := (List.getElem?_eq_some_iff.mp hv).1
    have hsv : Sta (K : Int) taps v := sta_words.mpr (List.mem_of_getElem? hv)
    have hvn := hsv.ne M
    obtain ⟨p, P⟩ := per_ex M hsv
    have hp0 := P.pos
    have hp5 := P.few
    unfold t__law_places_b1 sp__law_round
    rw [show tupI v = .tuple (v.map PyData.int) from rfl]
    walk_at "rd"
    simp only [gd]
    rw [keyT_tup hvn]
    dsimp only
    cases hval : valE kvs (kK v) with
    | some d =>
      rw [if_neg (by simp)]
      refine wk_self ⟨kvs, _, _, _, _, rfl, hY, hA, fun u hu => ?_, by omega, rfl⟩
      rw [take_one hv] at hu
      rcases List.mem_append.mp hu with hu | hu
      · exact hB u hu
      · rw [List.mem_singleton.mp hu, hval]
        rfl
    | none =>
      rw [if_pos (show (none : Option PyData).isSome = false from rfl)]
      refine ⟨(K : Int), taps, v, p, rfl, M, hsv, P, ?_⟩
      refine ⟨fun j e s => ∃ (kvs' : List (List Key × PyData)) (z4 z5 : Option D), s = S1.set S.length (some (.dic kvs')) ∧ KyS (K : Int) taps kvs' ∧ (∀ v d, valE kvs' (kK v) = some d → PlE (K : Int) taps v d) ∧ (∀ v ∈ (wordsL K taps.length).take i, (valE kvs' (kK v)).isSome = true) ∧ (0 < j → (valE kvs' (kK v)).isSome = true) ∧ kvs'.length ≤ 600 * i + j ∧ e = [some (.p (mach (K : Int) taps)), some (.loc S.length), some (.p (.tuple (v.map PyData.int))), some (.p (.list ((List.range p).map fun j => tupI (itr (K : Int) taps j v)))), z4, z5], ⟨kvs, _, _, rfl, hY, hA, hB, fun z => absurd z (Nat.lt_irrefl _), hC, rfl⟩, fun _ _ _ _ => trivial, ?_, ?_⟩
      · rintro j x e s hx2 ⟨kvs', z4, z5, rfl, hY', hA', hB', hV, hC', rfl⟩
        obtain ⟨d, hd, rfl⟩ := enum3_at hx2
        rw [List.getElem?_map] at hd
        obtain ⟨j', hj', rfl⟩ := Option.map_eq_some_iff.mp hd
        obtain ⟨hj1, hj2⟩ := List.getElem?_eq_some_iff.mp hj'
        rw [List.getElem_range] at hj2
        subst hj2
        rw [List.length_range] at hj1
        have hsj := hsv.itr M j
        unfold t__law_places_b2
        rw [show tupI (itr (K : Int) taps j v) = .tuple ((itr (K : Int) taps j v).map PyData.int) from rfl]
        walk_at "rd"
        simp only [gd]
        rw [keyT_tup (hsj.ne M)]
        dsimp only
        rw [List.set_set]
        have hi5 : i < 512 + 1 := by rw [wlen] at hil; omega
        refine ⟨by omega, wk_self ⟨_, some (.p (.int (j : Nat))), some (.p (.tuple ((itr (K : Int) taps j v).map PyData.int))), rfl, hY'.put hsj _, fun u d hu => ?_, fun u hu => ?_, fun _ => ?_, Nat.le_trans (putE_len _ _ _) (by omega), rfl⟩⟩
        · rw [valE_put] at hu
          by_cases e : kK u = kK (itr (K : Int) taps j v)
          · rw [if_pos e] at hu
            cases hu
            have := kK_inj e
            subst this
            exact ⟨v, p, j, hsv, P, hj1, rfl, rfl⟩
          · rw [if_neg e] at hu
            exact hA' u d hu
        · rw [valE_put]
          split
          · rfl
          · exact hB' u hu
        · rw [valE_put]
          split
          · rfl
          · rename_i hne
            rcases Nat.eq_zero_or_pos j with z | z
            · subst z
              exact absurd rfl hne
            · exact hV z
      · rintro e s ⟨kvs', z4, z5, rfl, hY', hA', hB', hV, hC', rfl⟩
        rw [enum3_ln, List.length_map, List.length_range] at hV hC'
        refine wk_self ⟨kvs', _, _, _, _, rfl, hY', hA', fun u hu => ?_, by omega, rfl⟩
        rw [take_one hv] at hu
        rcases List.mem_append.mp hu with hu | hu
        · exact hB' u hu
        · rw [List.mem_singleton.mp hu]
          exact hV hp0
  · rintro e s ⟨kvs, z2, z3, z4, z5, rfl, hY, hA, hB, hC, rfl⟩
    rw [List.length_map, List.take_of_length_le (Nat.le_refl _)] at hB
    walk_at "rd"
    refine fin_all (by rw [List.length_set]; omega) (by show S.length < _; rw [List.length_set]; omega) (q _ kvs _ (fun v hv => ?_) hY (Nat.le_refl _) (gd _) ?_ (by rw [List.length_set]; omega))
    · have h1 := hB v (sta_words.mp hv)
      obtain ⟨d, hd⟩ := Option.isSome_iff_exists.mp h1
      exact ⟨d, hd, hA v d hd⟩
    · rw [List.take_set_of_le (Nat.le_refl _)]
      have := congrArg (List.take S.length) hS1t
      rw [List.take_take, Nat.min_eq_left (Nat.le_succ _), List.take_left] at this
      exact this
theorem ok__law_places (T : Txt K mg base) : Ok3 P w K mg base 3 "_law_places" sp__law_places := by
  obtain ⟨f, fd, F, hm, hb⟩ := T.f__law_places
  exact Ok3.mk' F hm hb sc__law_places (fun ds S Q h => by simp only [sp__law_places] at h; first | (obtain ⟨rfl, _⟩ := h; rfl) | (obtain ⟨_, rfl, _⟩ := h; rfl) | (obtain ⟨_, _, rfl, _⟩ := h; rfl) | (obtain ⟨_, _, _, rfl, _⟩ := h; rfl) | (obtain ⟨_, _, _, _, rfl, _⟩ := h; rfl) | (obtain ⟨_, _, _, _, _, rfl, _⟩ := h; rfl) | (obtain ⟨_, _, _, _, _, _, rfl, _⟩ := h; rfl) | (obtain ⟨_, _, _, _, _, _, _, rfl, _⟩ := h; rfl) | (obtain ⟨_, _, _, _, _, _, _, _, rfl, _⟩ := h; rfl) | (obtain ⟨_, _, _, _, _, _, _, _, _, rfl, _⟩ := h; rfl) | (obtain ⟨_, _, _, _, _, _, _, _, _, _, rfl, _⟩ := h; rfl) | exact h.2) (fun cdv A outer s H E hr => dv__law_places T hr) rd__law_places
def sp__law_shows : Sp3 := fun ds S Q => ∃ (k : Int) (taps st : List Int) (pat : List Nat) (m : Nat) (kvs : List (List Key × PyData)), ds = [.loc m, .p (tupI (patI pat)), .p (tupI st)] ∧ Mach k taps ∧ Sta k taps st ∧ (S[m]? = some (some (.dic kvs)) ∨ ∃ od kxs, S[m]? = some (some (.dif od kxs kvs))) ∧ Plc k taps kvs ∧ Q (.p (tupI (seen k taps pat st))) S
def t__law_shows : TS3 := tSeq3 (tAsgT3 (tTGetA3 (tVar3 0) (tVar3 2)) (.tup (.cons (.nm 3) (.cons (.nm 4) (.nil))))) (tRet3 (tCB3 (rTupOf3) (tCons3 (tPure (tLc3 (tSeqI3 (tVar3 1)) (.nm 5) (tYes3) (tOp3 rIx3 (tOp3 rIx3 (tVar3 3) (tOp3 rMod3 (tOp3 rAdd3 (tVar3 4) (tVar3 5)) (tCB3 (rLenA3) (tCons3 (tVar3 3) (tNil3))))) (tC3 (.int 0))) [5])) (tNil3))))
theorem dv__law_shows (T : Txt K mg base) {f : Addr} {cdv : Value} {A : Around} {outer : List Env} {s : Shared} {H : Hp} {E : XK} (hr : Room 0 (A.deeper (envOfC "_law_shows" (defScope s__law_shows) s.heap.objs.size f cdv))) : QSs (cxOf CX0 P w K mg base nm__law_shows "_law_shows" (defScope s__law_shows) f cdv A outer s H E).nox (defBody s__law_shows) t__law_shows :=
  qss_cons (qs_asgT (qe_tgetA T.nt hr.units (qv 0) (qv 2) (fun _ _ => rfl)) (qb_tup rfl (qbs_cons (qb_nm (i := 3) sc__law_shows.nd rfl (by first | exact .inl rfl | exact .inr rfl)) (qbs_cons (qb_nm (i := 4) sc__law_shows.nd rfl (by first | exact .inl rfl | exact .inr rfl)) (qbs_nil))))) (qss_one (qs_ret (qe_ty cq_tuple (by rfl) T.b_tuple (by decide +kernel) (qa_cons (qn_pure (qn_lc (own := [("_law_number", 5)]) rfl sc__law_shows.nd (qi_seq (qv 1)) (blkOk_by (own := [("_law_number", 5)]) (N := nm__law_shows) (sc := defScope s__law_shows) (by decide +kernel)) (fun _ _ _ _ _ => qb_nm (i := 5) sc__law_shows.nd rfl (by first | exact .inl rfl | exact .inr rfl)) (fun _ _ _ _ _ => qts_nil) (fun _ _ _ _ _ => qe_ix iq_seq (qe_ix iq_seq (qv 3) (qe_op oq_mod (qe_op oq_add (qv 4) (qv 5)) (qe_cb cq_lenA (by rfl) T.b_len (by decide +kernel) (qa_cons (qv 3) (qa_nil))))) (qe_int)))) (qa_nil)))))
theorem rd__law_shows : ∀ ds S Q, sp__law_shows ds S Q → t__law_shows { nx := fun _ S' => Fin3 S Q (.p .none) S', rt := Fin3 S Q } (env0 6 ds) S := by
  rintro _ S Q ⟨k, taps, st, pat, m, kvs, rfl, M, h, hm, hp, q⟩
  obtain ⟨d, hd, s0, p, a, hs0, P, hap, hit, rfl⟩ := hp st h
  have hp0 := P.pos
  unfold t__law_shows tupI
  walk_at "rd"
  rcases hm with hm | ⟨od, kxs, hm⟩
  all_goals
    simp only [hm]
    rw [keyT_tup (h.ne M)]
    dsimp only
    rw [hd]
    walk_at "rd"
    refine ⟨fun i acc s => s = S ∧ acc = ((seen k taps pat st).take i).map PyData.int, ⟨rfl, rfl⟩, fun _ _ _ _ => trivial, ?_, ?_⟩
    · rintro i d acc s hd2 ⟨rfl, rfl⟩
      unfold patI at hd2
      rw [List.getElem?_map, List.getElem?_map] at hd2
      obtain ⟨x, hx, rfl⟩ := Option.map_eq_some_iff.mp hd2
      obtain ⟨n, hn, rfl⟩ := Option.map_eq_some_iff.mp hx
      walk_at "rd"
      have hm2 : ((a : Int) + (n : Int)) % (p : Int) = (((a + n) % p : Nat) : Int) := by rw [Int.natCast_emod, Int.natCast_add]
      have hcy : itr k taps ((a + n) % p) s0 = itr k taps n st := by rw [P.mod, Nat.add_comm a n, itr_add, hit]
      have hat : atI ((List.range p).map fun j => tupI (itr k taps j s0)) (((a + n) % p : Nat) : Int) = some (tupI (itr k taps n st)) := atI_nat (by rw [List.getElem?_map, List.getElem?_range (Nat.mod_lt _ hp0), ← hcy]; rfl)
      simp only [List.length_range, hm2, hat]
      have e : (seen k taps pat st)[i]? = some (hdI (itr k taps n st)) := by
        unfold seen
        rw [List.getElem?_map, hn]
        rfl
      unfold tupI
      dsimp only
      simp only [List.getElem?_map, hdI_get ((h.itr M n).ne M), Option.map_some]
      refine ⟨by omega, ?_⟩
      rw [take_one e]
      simp
    · rintro acc s ⟨rfl, rfl⟩
      have e : (seen k taps pat st).take ((patI pat).map PyData.int).length = seen k taps pat st := List.take_of_length_le (by rw [seen_len, List.length_map]; unfold patI; rw [List.length_map]; exact Nat.le_refl _)
      rw [show (patI pat).length = pat.length by unfold patI; rw [List.length_map], List.take_of_length_le (by rw [seen_len]; exact Nat.le_refl _)]
      exact fin_p q
theorem ok__law_shows (T : Txt K mg base) : Ok3 P w K mg base 1 "_law_shows" sp__law_shows := by
  obtain ⟨f, fd, F, hm, hb⟩ := T.f__law_shows
  exact Ok3.mk' F hm hb sc__law_shows (fun ds S Q h => by simp only [sp__law_shows] at h; first | (obtain ⟨rfl, _⟩ := h; rfl) | (obtain ⟨_, rfl, _⟩ := h; rfl) | (obtain ⟨_, _, rfl, _⟩ := h; rfl) | (obtain ⟨_, _, _, rfl, _⟩ := h; rfl) | (obtain ⟨_, _, _, _, rfl, _⟩ := h; rfl) | (obtain ⟨_, _, _, _, _, rfl, _⟩ := h; rfl) | (obtain ⟨_, _, _, _, _, _, rfl, _⟩ := h; rfl) | (obtain ⟨_, _, _, _, _, _, _, rfl, _⟩ := h; rfl) | (obtain ⟨_, _, _, _, _, _, _, _, rfl, _⟩ := h; rfl) | (obtain ⟨_, _, _, _, _, _, _, _, _, rfl, _⟩ := h; rfl) | (obtain ⟨_, _, _, _, _, _, _, _, _, _, rfl, _⟩ := h; rfl) | exact h.2) (fun cdv A outer s H E hr => dv__law_shows T hr) rd__law_shows
def sp__law_paper : Sp3 := fun ds S Q => ∃ (n : Nat) (b : Int) (k : Int) (taps : List Int) (pat : List Nat), ds = [.loc n, .p (mach k taps), .p (tupI (patI pat))] ∧ Mach k taps ∧ pat ≠ [] ∧ pat.length ≤ 8 ∧ HdB S n b ∧ b ≤ 1000000 ∧ ∀ (fs : List (List Int)) S', fs.length = taps.length → (∀ f ∈ fs, f.length = pat.length ∧ ∀ x ∈ f, 0 ≤ x ∧ x < k) → HdTo n S S' → HdB S' n (b + 100) → Q (.p (.tuple (fs.map tupI))) S'
def t__law_paper_b1 : TS3 := tSeq3 (tSet3 6 (tCB3 sp__law_take (tCons3 (tVar3 0) (tCons3 (tCB3 (rLenA3) (tCons3 (tVar3 2) (tNil3))) (tNil3))))) (tSeq3 (tSet3 7 (tOp3 rAdd3 (tOp3 rAdd3 (tOp3 rMulT3 (tTup3 (tCons3 (tC3 (.int 0)) (tNil3))) (tVar3 6)) (tTup3 (tCons3 (tC3 (.int 1)) (tNil3)))) (tOp3 rMulT3 (tTup3 (tCons3 (tC3 (.int 0)) (tNil3))) (tOp3 rSub3 (tOp3 rSub3 (tCB3 (rLenA3) (tCons3 (tVar3 2) (tNil3))) (tC3 (.int 1))) (tVar3 6))))) (tSeq3 (tIfS3 (tTest3 (tOp3 rEqS3 (tCB3 sp__law_take (tCons3 (tVar3 0) (tCons3 (tC3 (.int 2)) (tNil3)))) (tC3 (.int 0)))) (tSet3 7 (tCB3 (rTupOf3) (tCons3 (tPure (tLc3 (tSeqI3 (tVar3 2)) (.nm 8) (tYes3) (tCB3 sp__law_take (tCons3 (tVar3 0) (tCons3 (tVar3 3) (tNil3)))) [8])) (tNil3)))) (tNext3)) (tSet3 4 (tOp3 rAdd3 (tVar3 4) (tTup3 (tCons3 (tVar3 7) (tNil3)))))))
def t__law_paper : TS3 := tSeq3 (tAsgT3 (tTup3 (tCons3 (tOp3 rIx3 (tVar3 1) (tC3 (.int 0))) (tCons3 (tTup3 (tNil3)) (tNil3)))) (.tup (.cons (.nm 3) (.cons (.nm 4) (.nil))))) (tSeq3 (tFor3 (tRng1 (tCons3 (tCB3 (rLenA3) (tCons3 (tOp3 rIx3 (tVar3 1) (tC3 (.int 1))) (tNil3))) (tNil3))) (.nm 5) (t__law_paper_b1)) (tRet3 (tVar3 4)))
theorem dv__law_paper (T : Txt K mg base) {f : Addr} {cdv : Value} {A : Around} {outer : List Env} {s : Shared} {H : Hp} {E : XK} (hr : Room 1 (A.deeper (envOfC "_law_paper" (defScope s__law_paper) s.heap.objs.size f cdv))) : QSs (cxOf CX0 P w K mg base nm__law_paper "_law_paper" (defScope s__law_paper) f cdv A outer s H E).nox (defBody s__law_paper) t__law_paper :=
  qss_cons (qs_asgT (qe_tup (qa_cons (qe_ix iq_seq (qv 1) (qe_int)) (qa_cons (qe_tup (qa_nil)) (qa_nil)))) (qb_tup rfl (qbs_cons (qb_nm (i := 3) sc__law_paper.nd rfl (by first | exact .inl rfl | exact .inr rfl)) (qbs_cons (qb_nm (i := 4) sc__law_paper.nd rfl (by first | exact .inl rfl | exact .inr rfl)) (qbs_nil))))) (qss_cons (qs_for PassesOwn.never rfl (qi_range1 (by rfl) T.b_range (qa_cons (qe_cb cq_lenA (by rfl) T.b_len (by decide +kernel) (qa_cons (qe_ix iq_seq (qv 1) (qe_int)) (qa_nil))) (qa_nil))) (qb_nm (i := 5) sc__law_paper.nd rfl (by first | exact .inl rfl | exact .inr rfl)) (qss_cons (qs_set (i := 6) sc__law_paper.nd rfl (by first | exact .inl rfl | exact .inr rfl) (qe_call (ok__law_take T) (hr.mono (by decide)) (by rfl) (qa_cons (qv 0) (qa_cons (qe_cb cq_lenA (by rfl) T.b_len (by decide +kernel) (qa_cons (qv 2) (qa_nil))) (qa_nil))))) (qss_cons (qs_set (i := 7) sc__law_paper.nd rfl (by first | exact .inl rfl | exact .inr rfl) (qe_op oq_add (qe_op oq_add (qe_op oq_mulT (qe_tup (qa_cons (qe_int) (qa_nil))) (qv 6)) (qe_tup (qa_cons (qe_int) (qa_nil)))) (qe_op oq_mulT (qe_tup (qa_cons (qe_int) (qa_nil))) (qe_op oq_sub (qe_op oq_sub (qe_cb cq_lenA (by rfl) T.b_len (by decide +kernel) (qa_cons (qv 2) (qa_nil))) (qe_int)) (qv 6))))) (qss_cons (qs_if (qt_cmp (oq_eqS hr.units) (qe_call (ok__law_take T) (hr.mono (by decide)) (by rfl) (qa_cons (qv 0) (qa_cons (qe_int) (qa_nil)))) (qe_int)) (qss_one (qs_set (i := 7) sc__law_paper.nd rfl (by first | exact .inl rfl | exact .inr rfl) (qe_ty cq_tuple (by rfl) T.b_tuple (by decide +kernel) (qa_cons (qn_pure (qn_lc (own := [("_law_number", 8)]) rfl sc__law_paper.nd (qi_seq (qv 2)) (blkOk_by (own := [("_law_number", 8)]) (N := nm__law_paper) (sc := defScope s__law_paper) (by decide +kernel)) (fun _ _ _ _ _ => qb_nm (i := 8) sc__law_paper.nd rfl (by first | exact .inl rfl | exact .inr rfl)) (fun _ _ _ _ _ => qts_nil) (fun _ _ _ _ _ => qe_call (ok__law_take T) (hr.mono (by decide)) (by rfl) (qa_cons (qv 0) (qa_cons (qv 3) (qa_nil)))))) (qa_nil))))) (qss_nil)) (qss_one (qs_set (i := 4) sc__law_paper.nd rfl (by first | exact .inl rfl | exact .inr rfl) (qe_op oq_add (qv 4) (qe_tup (qa_cons (qv 7) (qa_nil)))))))))) (qss_one (qs_ret (qv 4))))
theorem rd__law_paper : ∀ ds S Q, sp__law_paper ds S Q → t__law_paper { nx := fun _ S' => Fin3 S Q (.p .none) S', rt := Fin3 S Q } (env0 9 ds) S := by
  rintro _ S Q ⟨n, b, k, taps, pat, rfl, M, hpn, hpl, hd, hb, q⟩
  have hmp := M.pos
  unfold t__law_paper mach tupI
  walk_at "rd"
  have hk := M.two
  have hpi : (patI pat).length = pat.length := by unfold patI; rw [List.length_map]
  have hp0 : 0 < pat.length := List.length_pos_iff.mpr hpn
  refine ⟨⟨by omega, by omega⟩, fun t e s => ∃ (fs : List (List Int)) (z5 z6 z7 z8 : Option D), fs.length = t ∧ (∀ f ∈ fs, f.length = pat.length ∧ ∀ x ∈ f, 0 ≤ x ∧ x < k) ∧ HdTo n S s ∧ HdB s n (b + 10 * (t : Nat)) ∧ e = [some (.loc n), some (.p (.tuple [.int k, .tuple (taps.map PyData.int)])), some (.p (.tuple ((patI pat).map PyData.int))), some (.p (.int k)), some (.p (.tuple (fs.map tupI))), z5, z6, z7, z8], ⟨[], none, none, none, none, rfl, (fun f hf => nomatch hf), HdTo.refl hd.hd, by simpa using hd, rfl⟩, fun _ _ _ _ => trivial, ?_, ?_⟩
  · rintro t x e s hx ⟨fs, z5, z6, z7, z8, hfl, hfs, hto, hdb, rfl⟩
    obtain ⟨ht, rfl⟩ := rng_get hx
    have ht9 : t < 9 := by omega
    unfold t__law_paper_b1 sp__law_take
    walk_at "rd"
    refine ⟨n, _, _, rfl, by omega, by omega, hdb, by omega, fun d S1 d0 d1 t1 hd1 => ?_⟩
    obtain ⟨c, rfl⟩ := Int.eq_ofNat_of_zero_le d0
    rw [hpi] at d1 ⊢
    have e2 : (pat.length : Int) - 1 - (c : Int) = ((pat.length - 1 - c : Nat) : Int) := by omega
    rw [e2, rep3_59, rep3_59]
    have ef : List.replicate c (PyData.int 0) ++ [PyData.int 1] ++ List.replicate (pat.length - 1 - c) (PyData.int 0) = (List.replicate c (0 : Int) ++ [1] ++ List.replicate (pat.length - 1 - c) 0).map PyData.int := by
      rw [List.map_append, List.map_append, List.map_replicate, List.map_replicate]
      rfl
    rw [ef]
    have hff : (List.replicate c (0 : Int) ++ [1] ++ List.replicate (pat.length - 1 - c) 0).length = pat.length ∧ ∀ x ∈ List.replicate c (0 : Int) ++ [1] ++ List.replicate (pat.length - 1 - c) 0, 0 ≤ x ∧ x < k := by
      refine ⟨by simp; omega, fun x hx => ?_⟩
      simp only [List.mem_append, List.mem_replicate, List.mem_singleton] at hx
      rcases hx with (⟨_, rfl⟩ | rfl) | ⟨_, rfl⟩ <;> omega
    generalize List.replicate c (0 : Int) ++ [1] ++ List.replicate (pat.length - 1 - c) 0 = f at *
    have tail : ∀ (f : List Int) (z6 z8 : Option D) (S2 : S3), f.length = pat.length → (∀ x ∈ f, 0 ≤ x ∧ x < k) → HdTo n S S2 → HdB S2 n (b + 10 * ((t + 1 : Nat) : Int)) → ∃ (fs' : List (List Int)) (z5' z6' z7' z8' : Option D), fs'.length = t + 1 ∧ (∀ f ∈ fs', f.length = pat.length ∧ ∀ x ∈ f, 0 ≤ x ∧ x < k) ∧ HdTo n S S2 ∧ HdB S2 n (b + 10 * ((t + 1 : Nat) : Int)) ∧ [some (.loc n), some (.p (.tuple [.int k, .tuple (taps.map PyData.int)])), some (.p (.tuple ((patI pat).map PyData.int))), some (.p (.int k)), some (.p (.tuple (fs.map tupI ++ [.tuple (f.map PyData.int)]))), some (.p (.int (0 + (t : Int)))), z6, some (.p (.tuple (f.map PyData.int))), z8] = [some (.loc n), some (.p (.tuple [.int k, .tuple (taps.map PyData.int)])), some (.p (.tuple ((patI pat).map PyData.int))), some (.p (.int k)), some (.p (.tuple (fs'.map tupI))), z5', z6', z7', z8'] := fun f z6 z8 S2 h1 h2 h3 h4 => ⟨fs ++ [f], _, _, _, _, by rw [List.length_append, hfl]; rfl, fun g hg => by
        rcases List.mem_append.mp hg with hg | hg
        · exact hfs g hg
        · rw [List.mem_singleton.mp hg]
          exact ⟨h1, h2⟩, h3, h4, by rw [List.map_append]; rfl⟩
    refine ⟨⟨by omega, by omega, by omega⟩, by rw [List.length_replicate]; omega, ⟨by omega, by omega, by omega⟩, by simp; omega, n, 2, _, rfl, by omega, by omega, hd1, by omega, fun d2 S2 a2 b2 t2 hd2 => ?_⟩
    have tt := (hto.trans t1).trans t2
    by_cases h0 : d2 = 0
    · rw [if_pos h0]
      refine ⟨fun j acc s => ∃ (S4 : S3) (g : List Int), s = S4 ∧ acc = g.map PyData.int ∧ g.length = j ∧ (∀ x ∈ g, 0 ≤ x ∧ x < k) ∧ HdTo n S S4 ∧ HdB S4 n (b + 10 * (t : Nat) + 2 + j), ⟨S2, [], rfl, rfl, rfl, (fun x hx => nomatch hx), tt, hd2.le (by omega)⟩, fun _ _ _ _ => trivial, ?_, ?_⟩
      · rintro j x acc s hx2 ⟨S4, g, rfl, rfl, hg1, hg2, t4, hd4⟩
        have hj : j < pat.length := by
          have := (List.getElem?_eq_some_iff.mp hx2).1
          rw [List.length_map, hpi] at this
          exact this
        refine ⟨n, k, _, rfl, by omega, by omega, hd4, by omega, fun d5 S5 a5 b5 t5 hd5 => ⟨S5, g ++ [d5], rfl, by rw [List.map_append]; rfl, by rw [List.length_append, hg1]; rfl, fun x hx => ?_, t4.trans t5, hd5.le (by omega)⟩⟩
        rcases List.mem_append.mp hx with hx | hx
        · exact hg2 x hx
        · rw [List.mem_singleton.mp hx]
          exact ⟨a5, b5⟩
      · rintro acc s ⟨S4, g, rfl, rfl, hg1, hg2, t4, hd4⟩
        exact ⟨by omega, wk_self (tail g _ _ _ hg1 hg2 t4 (hd4.le (by omega)))⟩
    · rw [if_neg h0]
      exact ⟨by omega, wk_self (tail f _ _ _ hff.1 hff.2 tt (hd2.le (by omega)))⟩
  · rintro e s ⟨fs, z5, z6, z7, z8, hfl, hfs, hto, hdb, rfl⟩
    rw [rng_len, Int.toNat_natCast] at hfl hdb
    walk_at "rd"
    exact fin_hd hto (q fs s hfl hfs hto (hdb.le (by omega)))
theorem ok__law_paper (T : Txt K mg base) : Ok3 P w K mg base 2 "_law_paper" sp__law_paper := by
  obtain ⟨f, fd, F, hm, hb⟩ := T.f__law_paper
  exact Ok3.mk' F hm hb sc__law_paper (fun ds S Q h => by simp only [sp__law_paper] at h; first | (obtain ⟨rfl, _⟩ := h; rfl) | (obtain ⟨_, rfl, _⟩ := h; rfl) | (obtain ⟨_, _, rfl, _⟩ := h; rfl) | (obtain ⟨_, _, _, rfl, _⟩ := h; rfl) | (obtain ⟨_, _, _, _, rfl, _⟩ := h; rfl) | (obtain ⟨_, _, _, _, _, rfl, _⟩ := h; rfl) | (obtain ⟨_, _, _, _, _, _, rfl, _⟩ := h; rfl) | (obtain ⟨_, _, _, _, _, _, _, rfl, _⟩ := h; rfl) | (obtain ⟨_, _, _, _, _, _, _, _, rfl, _⟩ := h; rfl) | (obtain ⟨_, _, _, _, _, _, _, _, _, rfl, _⟩ := h; rfl) | (obtain ⟨_, _, _, _, _, _, _, _, _, _, rfl, _⟩ := h; rfl) | exact h.2) (fun cdv A outer s H E hr => dv__law_paper T hr) rd__law_paper
def sp_law : Sp3 := spLaw3
def t_law_b3 : TS3 := tSeq3 (tSet3 11 (tAndV3 (tOp3 rGt3 (tCB3 (rMaxT3) (tCons3 (tVar3 7) (tNil3))) (tC3 (.int 0))) (tOp3 rEqS3 (tCB3 (rMaxT3) (tCons3 (tVar3 10) (tNil3))) (tC3 (.int 0))))) (tSeq3 (tSet3 12 (tCB3 sp_shows_judged (tCons3 (tVar3 3) (tCons3 (tVar3 6) (tCons3 (tTup3 (tCons3 (tC3 (.str (PySem.Str.ofString "blind"))) (tCons3 (tVar3 7) (tNil3)))) (tNil3)))))) (tIfS3 (tOr3 (tNot3 (tTest3 (tIsi3 "bool" (tVar3 12)))) (tOr3 (tTest3 (tOp3 rNeS3 (tVar3 12) (tVar3 11))) (tAnd3 (tTest3 (tVar3 9)) (tTest3 (tVar3 11))))) (tRet3 (tC3 (.bool false))) (tNext3)))
def t_law_b4 : TS3 := tSeq3 (tSet3 14 (tCB3 sp__law_paper (tCons3 (tVar3 2) (tCons3 (tVar3 3) (tCons3 (tVar3 6) (tNil3)))))) (tIfS3 (tAnd3 (tNot3 (tTest3 (tVar3 9))) (tTest3 (tOp3 rIsNot3 (tCB3 sp_shows_judged (tCons3 (tVar3 3) (tCons3 (tVar3 6) (tCons3 (tTup3 (tCons3 (tC3 (.str (PySem.Str.ofString "sees"))) (tCons3 (tVar3 14) (tNil3)))) (tNil3))))) (tC3 (.bool false))))) (tRet3 (tC3 (.bool false))) (tNext3))
def t_law_b2_r4 : TS3 := tSeq3 (tLkT3 4 (tFor3 (tZipK3 (tCons3 (tVar3 4) (tCons3 (tVar3 8) (tNil3)))) (.tup (.cons (.nm 7) (.cons (.nm 10) (.nil)))) (t_law_b3))) (tFor3 (tRng1 (tCons3 (tC3 (.int 8)) (tNil3))) (.nm 13) (t_law_b4))
def t_law_b2 : TS3 := tSeq3 (tSet3 6 (tCB3 sp__law_pattern (tCons3 (tVar3 2) (tCons3 (tC3 (.int 8)) (tNil3))))) (tSeq3 (tLkT3 4 (tSet3 8 (tPure (tLc3 (tKeysD3 (tVar3 4)) (.nm 7) (tYes3) (tCB3 sp__law_shows (tCons3 (tVar3 4) (tCons3 (tVar3 6) (tCons3 (tVar3 7) (tNil3))))) [7])))) (tSeq3 (tSet3 9 (tOp3 rEqS3 (tLenSetG3 (tVar3 8)) (tCB3 (rLenT3) (tCons3 (tVar3 4) (tNil3))))) (tSeq3 (tIfS3 (tTest3 (tOp3 rNeS3 (tOp3 rIx3 (tCB3 sp_judged (tCons3 (tVar3 3) (tCons3 (tVar3 6) (tNil3)))) (tC3 (.int 0))) (tOp3 rIx3 (tPure (tLst3 (tCons3 (tC3 (.str (PySem.Str.ofString "blind"))) (tCons3 (tC3 (.str (PySem.Str.ofString "sees"))) (tNil3))))) (tCB3 (rIntOf3) (tCons3 (tVar3 9) (tNil3)))))) (tRet3 (tC3 (.bool false))) (tNext3)) (t_law_b2_r4))))
def t_law_b1 : TS3 := tSeq3 (tSet3 2 (tCB3 sp__law_hand (tCons3 (tVar3 0) (tCons3 (tVar3 1) (tNil3))))) (tSeq3 (tSet3 3 (tCB3 sp__law_machine (tCons3 (tVar3 2) (tNil3)))) (tSeq3 (tSet3 4 (tCB3 sp__law_places (tCons3 (tVar3 3) (tNil3)))) (tFor3 (tRng1 (tCons3 (tC3 (.int 2)) (tNil3))) (.nm 5) (t_law_b2))))
def t_law : TS3 := tSeq3 (tFor3 (tRng1 (tCons3 (tCB3 (rInt2 (fun i j => if j > i then j else i)) (tCons3 (tC3 (.int 1)) (tCons3 (tCB3 (rInt2 (fun i j => if j < i then j else i)) (tCons3 (tCB3 (rLenA3) (tCons3 (tVar3 0) (tNil3))) (tCons3 (tC3 (.int 3)) (tNil3)))) (tNil3)))) (tNil3))) (.nm 1) (t_law_b1)) (tRet3 (tC3 (.bool true)))
theorem dv_law (T : Txt K mg base) {f : Addr} {cdv : Value} {A : Around} {outer : List Env} {s : Shared} {H : Hp} {E : XK} (hr : Room 5 (A.deeper (envOfC "law" (defScope s_law) s.heap.objs.size f cdv))) : QSs (cxOf CX0 P w K mg base nm_law "law" (defScope s_law) f cdv A outer s H E).nox (defBody s_law) t_law :=
  qss_cons (qs_for PassesOwn.never rfl (qi_range1 (by rfl) T.b_range (qa_cons (qe_cb (cq_max2 rfl) (by rfl) T.b_max (by decide +kernel) (qa_cons (qe_int) (qa_cons (qe_cb (cq_min2 rfl) (by rfl) T.b_min (by decide +kernel) (qa_cons (qe_cb cq_lenA (by rfl) T.b_len (by decide +kernel) (qa_cons (qv 0) (qa_nil))) (qa_cons (qe_int) (qa_nil)))) (qa_nil)))) (qa_nil))) (qb_nm (i := 1) sc_law.nd rfl (by first | exact .inl rfl | exact .inr rfl)) (qss_cons (qs_set (i := 2) sc_law.nd rfl (by first | exact .inl rfl | exact .inr rfl) (qe_call (ok__law_hand T) (hr.mono (by decide)) (by rfl) (qa_cons (qv 0) (qa_cons (qv 1) (qa_nil))))) (qss_cons (qs_set (i := 3) sc_law.nd rfl (by first | exact .inl rfl | exact .inr rfl) (qe_call (ok__law_machine T) (hr.mono (by decide)) (by rfl) (qa_cons (qv 2) (qa_nil)))) (qss_cons (qs_set (i := 4) sc_law.nd rfl (by first | exact .inl rfl | exact .inr rfl) (qe_call (ok__law_places T) (hr.mono (by decide)) (by rfl) (qa_cons (qv 3) (qa_nil)))) (qss_one (qs_for PassesOwn.never rfl (qi_range1 (by rfl) T.b_range (qa_cons (qe_int) (qa_nil))) (qb_nm (i := 5) sc_law.nd rfl (by first | exact .inl rfl | exact .inr rfl)) (qss_cons (qs_set (i := 6) sc_law.nd rfl (by first | exact .inl rfl | exact .inr rfl) (qe_call (ok__law_pattern T) (hr.mono (by decide)) (by rfl) (qa_cons (qv 2) (qa_cons (qe_int) (qa_nil))))) (qss_cons (qs_lkT 4 (qs_setLcP (i := 8) (own := [("_law_state", 7)]) rfl sc_law.nd rfl rfl (sw_true rfl rfl rfl (by decide +kernel)) (qi_keysD (qv 4)) (blkOk_by (own := [("_law_state", 7)]) (N := nm_law) (sc := defScope s_law) (by decide +kernel)) (fun _ _ _ _ _ => qb_nm (i := 7) sc_law.nd rfl (by first | exact .inl rfl | exact .inr rfl)) (fun _ _ _ _ _ => qts_nil) (fun _ _ _ _ _ => qe_call (ok__law_shows T) (hr.mono (by decide)) (by rfl) (qa_cons (qv 4) (qa_cons (qv 6) (qa_cons (qv 7) (qa_nil))))))) (qss_cons (qs_set (i := 9) sc_law.nd rfl (by first | exact .inl rfl | exact .inr rfl) (qe_cmp (oq_eqS hr.units) (qe_lenSetG rfl hr.units (by rfl) T.b_len (by rfl) T.b_set (qv 8)) (qe_cb cq_lenT (by rfl) T.b_len (by decide +kernel) (qa_cons (qv 4) (qa_nil))))) (qss_cons (qs_if (qt_cmp (oq_neS hr.units) (qe_ix iq_seq (qe_call (ok_judged T) (hr.mono (by decide)) (by rfl) (qa_cons (qv 3) (qa_cons (qv 6) (qa_nil)))) (qe_int)) (qe_ix iq_seq (qn_pure (qn_lst (qa_cons (qe_str) (qa_cons (qe_str) (qa_nil))))) (qe_ty cq_int (by rfl) T.b_int (by decide +kernel) (qa_cons (qv 9) (qa_nil))))) (qss_one (qs_ret (qe_bl))) (qss_nil)) (qss_cons (qs_lkT 4 (qs_for PassesOwn.never rfl (qi_zipK (by rfl) T.b_zip (qa_cons (qv 4) (qa_cons (qv 8) (qa_nil)))) (qb_tup rfl (qbs_cons (qb_nm (i := 7) sc_law.nd rfl (by first | exact .inl rfl | exact .inr rfl)) (qbs_cons (qb_nm (i := 10) sc_law.nd rfl (by first | exact .inl rfl | exact .inr rfl)) (qbs_nil)))) (qss_cons (qs_set (i := 11) sc_law.nd rfl (by first | exact .inl rfl | exact .inr rfl) (qe_and (qe_cmp oq_gt (qe_cb (cq_maxT rfl hr.units) (by rfl) T.b_max (by decide +kernel) (qa_cons (qv 7) (qa_nil))) (qe_int)) (qe_one (qe_cmp (oq_eqS hr.units) (qe_cb (cq_maxT rfl hr.units) (by rfl) T.b_max (by decide +kernel) (qa_cons (qv 10) (qa_nil))) (qe_int))))) (qss_cons (qs_set (i := 12) sc_law.nd rfl (by first | exact .inl rfl | exact .inr rfl) (qe_call (ok_shows_judged T) (hr.mono (by decide)) (by rfl) (qa_cons (qv 3) (qa_cons (qv 6) (qa_cons (qe_tup (qa_cons (qe_str) (qa_cons (qv 7) (qa_nil)))) (qa_nil)))))) (qss_one (qs_if (qt_w (qw_or (qt_not (qt_val (qe_isi (T := "bool") (by decide +kernel) (by rfl) (T.b_isinstance) (by rfl) (T.b_bool) (by decide +kernel) (by decide) (by decide) (qv 12)))) (qw_or (qt_cmp (oq_neS hr.units) (qv 12) (qv 11)) (qw_or1 (qt_w (qw_and (qt_val (qv 9)) (qw_and1 (qt_val (qv 11))))))))) (qss_one (qs_ret (qe_bl))) (qss_nil))))))) (qss_one (qs_for PassesOwn.never rfl (qi_range1 (by rfl) T.b_range (qa_cons (qe_int) (qa_nil))) (qb_nm (i := 13) sc_law.nd rfl (by first | exact .inl rfl | exact .inr rfl)) (qss_cons (qs_set (i := 14) sc_law.nd rfl (by first | exact .inl rfl | exact .inr rfl) (qe_call (ok__law_paper T) (hr.mono (by decide)) (by rfl) (qa_cons (qv 2) (qa_cons (qv 3) (qa_cons (qv 6) (qa_nil)))))) (qss_one (qs_if (qt_w (qw_and (qt_not (qt_val (qv 9))) (qw_and1 (qt_cmp oq_isnot (qe_call (ok_shows_judged T) (hr.mono (by decide)) (by rfl) (qa_cons (qv 3) (qa_cons (qv 6) (qa_cons (qe_tup (qa_cons (qe_str) (qa_cons (qv 14) (qa_nil)))) (qa_nil))))) (qe_bl))))) (qss_one (qs_ret (qe_bl))) (qss_nil))))))))))))))))) (qss_one (qs_ret (qe_bl)))
theorem rd_law : ∀ ds S Q, sp_law ds S Q → t_law { nx := fun _ S' => Fin3 S Q (.p .none) S', rt := Fin3 S Q } (env0 15 ds) S := by
  rintro _ S Q ⟨ns, rfl, hl, rfl, q⟩
  unfold t_law
  walk_at "rd"
  refine ⟨by constructor <;> (repeat split) <;> omega, ?_⟩
  refine ⟨fun i e s => s = [] ∧ ∃ z1 z2 z3 z4 z5 z6 z7 z8 z9 z10 z11 z12 z13 z14 : Option D, e = [some (.p (.list (ns.map PyData.int))), z1, z2, z3, z4, z5, z6, z7, z8, z9, z10, z11, z12, z13, z14], ⟨rfl, none, none, none, none, none, none, none, none, none, none, none, none, none, none, rfl⟩, fun _ _ _ _ => trivial, ?_, ?_⟩
  · rintro i d e s hd ⟨rfl, z1, z2, z3, z4, z5, z6, z7, z8, z9, z10, z11, z12, z13, z14, rfl⟩
    obtain ⟨hi, rfl⟩ := rng_get hd
    have hi2 : i < 5 := by
      have : (if (if (3 : Int) < (ns.length : Int) then (3 : Int) else (ns.length : Int)) > 1 then (if (3 : Int) < (ns.length : Int) then (3 : Int) else (ns.length : Int)) else 1) ≤ 4 := by (repeat split) <;> omega
      omega
    unfold t_law_b1 sp__law_hand sp__law_machine sp__law_places
    walk_at "rd"
    refine ⟨ns, _, rfl, hl, by omega, by omega, fun S0 hd0 _ hlen => ?_⟩
    try simp only [List.length_nil, Nat.zero_add] at hd0 hlen
    refine ⟨0, 0, rfl, hd0, by decide, fun k taps S1 M t1 hd1 => ?_⟩
    have hmp := M.pos
    refine ⟨k, taps, rfl, M, fun m kvs S2 hP hY hm hS2 hS2t hS2l => ?_⟩
    have hl1 : S1.length = 1 := by rw [t1.len, hlen]
    have hd2 : HdB S2 0 (0 + 20) := hdb_take hd1 hS2t (by omega)
    obtain ⟨L, hkL, ndL, hL⟩ := hY.all hP
    have hkl := keys_len hkL
    have hkt := keys_tup hkL
    have hkf := keys_few M hkL hL
    have hLn : L.length ≤ 600 := by
      obtain ⟨K, rfl⟩ := Int.eq_ofNat_of_zero_le (Int.le_of_lt hmp.1)
      have hfew := M.few
      rw [Int.toNat_natCast] at hfew
      have h1 := (nodup_len59 (l := wordsL K taps.length) ndL fun v => by rw [hL v, sta_words]).1
      rw [wordsL_len] at h1
      omega
    refine ⟨fun t e s => ∃ z5 z6 z7 z8 z9 z10 z11 z12 z13 z14 : Option D, HdB s 0 ((20 + 900 * t : Nat) : Int) ∧ s[m]? = some (some (.dic kvs)) ∧ e = [some (.p (.list (ns.map PyData.int))), some (.p (.int (0 + (i : Int)))), some (.loc 0), some (.p (mach k taps)), some (.loc m), z5, z6, z7, z8, z9, z10, z11, z12, z13, z14], ⟨_, _, _, _, _, _, _, _, _, _, hd2.le (by omega), hS2, rfl⟩, fun _ _ _ _ => trivial, ?_, ?_⟩
    · rintro t x e s hx ⟨z5, z6, z7, z8, z9, z10, z11, z12, z13, z14, hdb, hs, rfl⟩
      obtain ⟨ht, rfl⟩ := rng_get hx
      have ht2 : t < 2 := by simpa using ht
      unfold t_law_b2 sp__law_pattern sp__law_shows
      walk_at "rd"
      refine ⟨0, _, rfl, hdb, by omega, fun pat S3 hpn hpl hpb t3 hd3 => ?_⟩
      have hs3 : S3[m]? = some (some (.dic kvs)) := by
        obtain ⟨g0, x0, c0, rfl⟩ := t3
        rw [List.getElem?_set_ne (by omega)]
        exact hs
      have hml : m < S3.length := (List.getElem?_eq_some_iff.mp hs3).1
      walk_at "rd"
      simp only [hs3]
      have hz : (L.map (seen k taps pat)).length = L.length := List.length_map ..
      have hdf : ∀ od kxs, (S3.set m (some (.dif od kxs kvs)))[m]? = some (some (.dif od kxs kvs)) := fun od kxs => List.getElem?_set_self hml
      have hback : ∀ x : Option O3, (S3.set m x).set m (some (.dic kvs)) = S3 := fun x => by
        obtain ⟨g3, g4⟩ := List.getElem?_eq_some_iff.mp hs3
        rw [List.set_set, ← g4, List.set_getElem_self]
      have tail : ∀ (N : N3) (bs : Bool) (z5 z7 z10 z11 z12 z13 z14 : Option D), (bs = true ↔ Unl k taps pat) → (∀ (e : E3) (s : L3.S3), HdB s 0 ((20 + 900 * (t + 1) : Nat) : Int) → s[m]? = some (some (.dic kvs)) → (∃ z5 z6 z7 z8 z9 z10 z11 z12 z13 z14 : Option D, e = [some (.p (.list (ns.map PyData.int))), some (.p (.int (0 + (i : Int)))), some (.loc 0), some (.p (mach k taps)), some (.loc m), z5, z6, z7, z8, z9, z10, z11, z12, z13, z14]) → N.nx e s) →
          t_law_b2_r4 N [some (.p (.list (ns.map PyData.int))), some (.p (.int (0 + (i : Int)))), some (.loc 0), some (.p (mach k taps)), some (.loc m), z5, some (.p (tupI (patI pat))), z7, some (.p (.list ((L.map (seen k taps pat)).map tupI))), some (.p (.bool bs)), z10, z11, z12, z13, z14] S3 := by
        intro N bs z5 z7 z10 z11 z12 z13 z14 hbs hN
        unfold t_law_b2_r4
        walk_at "rd"
        simp only [hs3]
        intro od kxs
        simp only [hdf]
        rw [hkt]
        refine ⟨hkf, fun j e s => s = S3.set m (some (.dif od kxs kvs)) ∧ ∃ z7 z10 z11 z12 : Option D, e = [some (.p (.list (ns.map PyData.int))), some (.p (.int (0 + (i : Int)))), some (.loc 0), some (.p (mach k taps)), some (.loc m), z5, some (.p (tupI (patI pat))), z7, some (.p (.list ((L.map (seen k taps pat)).map tupI))), some (.p (.bool bs)), z10, z11, z12, z13, z14], ⟨rfl, _, _, _, _, rfl⟩, fun j e s h => ⟨by rw [h.1]; exact hdf od kxs, trivial⟩, ?_, ?_⟩
        · rintro j x e s hx ⟨rfl, y7, y10, y11, y12, rfl⟩
          obtain ⟨x1, x2, g1, g2, rfl⟩ := zip3_get hx
          rw [List.getElem?_map] at g1
          obtain ⟨v, hv, rfl⟩ := Option.map_eq_some_iff.mp g1
          rw [List.getElem?_map, List.getElem?_map, hv] at g2
          cases g2
          have hsv := (hL v).mp (List.mem_of_getElem? hv)
          have hvn := hsv.ne M
          have hsn : seen k taps pat v ≠ [] := fun z => by
            have := seen_len k taps pat v
            rw [z] at this
            exact hpn (List.eq_nil_of_length_eq_zero this.symm)
          have hsk := seen_ok M hsv (pat := pat)
          have hvk := hsv.ok
          unfold t_law_b3 sp_shows_judged
          unfold tupI
          walk_at "rd"
          simp only [allP_ints]
          obtain ⟨m0, ms0, hse⟩ := List.exists_cons_of_ne_nil hsn
          obtain ⟨n0, ns0, rfl⟩ := List.exists_cons_of_ne_nil hvn
          have hA := max_any (ns := n0 :: ns0) (by simp) fun x hx => (hvk x hx).1
          have hB := max_any (ns := m0 :: ms0) (by simp) fun x hx => by
            rw [← hse] at hx
            exact (hsk x hx).1
          have hB2 := max_nil (ns := m0 :: ms0) (by simp) fun x hx => by
            rw [← hse] at hx
            exact (hsk x hx).1
          have e3 : ∀ b : Bool, PyData.eqv (.bool b) (.bool b) = true := fun b => by cases b <;> rfl
          rw [hse]
          dsimp only
          by_cases h0 : 0 < maxI (n0 :: ns0)
          · rw [if_pos h0]
            refine ⟨k, taps, pat, _, rfl, M, by omega, .inl ⟨n0 :: ns0, rfl, hsv, ?_⟩⟩
            rw [hse]
            have e1 := hA.mp h0
            simp only [ne_eq] at e1 hB hB2
            rw [e1, Bool.true_and, hB2]
            refine ⟨⟨rfl, rfl⟩, ?_⟩
            rw [e3, if_neg (by decide)]
            have done : ¬ (bs = true ∧ maxI (m0 :: ms0) = 0) := fun ⟨g1, g2⟩ => by
              have hz : ∀ x ∈ seen k taps pat (n0 :: ns0), x = 0 := fun x hx => by
                rw [hse] at hx
                have h1 := maxI_ge59 hx
                rw [← hse] at hx
                have h2 := (hsk x hx).1
                omega
              have h3 := unl_zero M (hbs.mp g1) hsv hz
              have h4 := maxI_mem59 (ns := n0 :: ns0) (by simp)
              have := h3 _ h4
              omega
            cases bs with
            | false =>
              rw [if_neg (by decide)]
              exact wk_self ⟨rfl, _, _, _, _, rfl⟩
            | true =>
              rw [if_pos rfl, if_neg fun z => done ⟨rfl, z⟩]
              exact wk_self ⟨rfl, _, _, _, _, rfl⟩
          · rw [if_neg h0]
            refine ⟨k, taps, pat, _, rfl, M, by omega, .inl ⟨n0 :: ns0, rfl, hsv, ?_⟩⟩
            have e1 : ((n0 :: ns0).any fun n => decide (n ≠ 0)) = false := by
              cases e : (n0 :: ns0).any fun n => decide (n ≠ 0) with
              | false => rfl
              | true => exact absurd (hA.mpr e) h0
            simp only [ne_eq] at e1
            rw [e1, Bool.false_and]
            refine ⟨⟨rfl, rfl⟩, ?_⟩
            rw [e3, if_neg (by decide)]
            cases bs with
            | false =>
              rw [if_neg (by decide)]
              exact wk_self ⟨rfl, _, _, _, _, rfl⟩
            | true =>
              rw [if_pos rfl]
              exact wk_self ⟨rfl, _, _, _, _, rfl⟩
        · rintro e s ⟨rfl, y7, y10, y11, y12, rfl⟩
          rw [hback]
          refine ⟨hdf od kxs, fun r e s => ∃ y13 y14 : Option D, HdB s 0 ((20 + 900 * t + 80 + 100 * r : Nat) : Int) ∧ s[m]? = some (some (.dic kvs)) ∧ e = [some (.p (.list (ns.map PyData.int))), some (.p (.int (0 + (i : Int)))), some (.loc 0), some (.p (mach k taps)), some (.loc m), z5, some (.p (tupI (patI pat))), y7, some (.p (.list ((L.map (seen k taps pat)).map tupI))), some (.p (.bool bs)), y10, y11, y12, y13, y14], ⟨_, _, hd3.le (by omega), hs3, rfl⟩, fun _ _ _ _ => trivial, ?_, ?_⟩
          · rintro r x e s hx ⟨y13, y14, hdr, hsr, rfl⟩
            obtain ⟨hr, rfl⟩ := rng_get hx
            unfold t_law_b4 sp__law_paper sp_shows_judged
            walk_at "rd"
            refine ⟨0, _, k, taps, pat, rfl, M, hpn, hpl, hdr, by omega, fun fs S4 hf1 hf2 t4 hd4 => ?_⟩
            have hs4 : S4[m]? = some (some (.dic kvs)) := by
              obtain ⟨g0, x0, c0, rfl⟩ := t4
              rw [List.getElem?_set_ne (by omega)]
              exact hsr
            walk_at "rd"
            cases bs with
            | true =>
              rw [if_neg (by decide)]
              exact wk_self ⟨_, _, hd4.le (by omega), hs4, rfl⟩
            | false =>
              rw [if_pos rfl]
              refine ⟨k, taps, pat, _, rfl, M, by omega, .inr ⟨fs, rfl, hf1, hf2, fun b hb => ?_⟩⟩
              have hb0 : b = false := by
                cases b with
                | false => rfl
                | true =>
                  obtain ⟨u, hu, ⟨x, hx, hx0⟩, hz⟩ := not_unl M (pat := pat) fun z => by
                    have := hbs.mpr z
                    cases this
                  exact absurd (pap_zero M hf1 (hb rfl) hu hz x hx) hx0
              subst hb0
              rw [if_neg (fun z => z rfl)]
              exact wk_self ⟨_, _, hd4.le (by omega), hs4, rfl⟩
          · rintro e s ⟨y13, y14, hdr, hsr, rfl⟩
            rw [rng_len] at hdr
            exact hN _ _ (hdr.le (by omega)) hsr ⟨_, _, _, _, _, _, _, _, _, _, rfl⟩
      intro od kxs
      simp only [hdf]
      refine ⟨by omega, hkf, ?_⟩
      rw [hkt]
      refine ⟨fun j acc s => s = S3.set m (some (.dif od kxs kvs)) ∧ acc = ((L.take j).map (seen k taps pat)).map tupI, ⟨rfl, rfl⟩, fun j acc s h => by rw [h.1]; exact hdf od kxs, ?_, ?_⟩
      · rintro j x acc s hx ⟨rfl, rfl⟩
        rw [List.getElem?_map] at hx
        obtain ⟨v, hv, rfl⟩ := Option.map_eq_some_iff.mp hx
        have hsv := (hL v).mp (List.mem_of_getElem? hv)
        refine ⟨k, taps, v, pat, m, kvs, rfl, M, hsv, .inr ⟨od, kxs, hdf od kxs⟩, hP, rfl, ?_⟩
        rw [take_one hv, List.map_append, List.map_append]
        rfl
      · rintro acc s ⟨rfl, rfl⟩
        rw [hkl, List.take_length, hback]
        refine ⟨hdf od kxs, ?_⟩
        simp only [allP_tups]
        refine ⟨by rw [hz]; omega, fun L' nd' hm' => ?_⟩
        have hcnt := (nodup_len59 nd' hm').2
        rw [seen_cnt ndL hL, hz] at hcnt
        unfold rLenT3 dic3
        simp only [hs3]
        unfold sp_judged
        refine ⟨⟨rfl, rfl⟩, k, taps, pat, rfl, M, by omega, ?_⟩
        have hiff := unl_iff M pat
        generalize hbs : PyData.eqv (.int (L'.length : Nat)) (.int (kvs.length : Nat)) = bs
        have hbU : bs = true ↔ Unl k taps pat := by
          rw [← hbs, eqv_int, beq_iff_eq, hkl, ← hcnt]
          omega
        clear hbs
        unfold judD
        dsimp only
        have fin : ∀ (e : E3) (s : L3.S3), HdB s 0 ((20 + 900 * (t + 1) : Nat) : Int) → s[m]? = some (some (.dic kvs)) → (∃ z5 z6 z7 z8 z9 z10 z11 z12 z13 z14 : Option D, e = [some (.p (.list (ns.map PyData.int))), some (.p (.int (0 + (i : Int)))), some (.loc 0), some (.p (mach k taps)), some (.loc m), z5, z6, z7, z8, z9, z10, z11, z12, z13, z14]) → Wk (List.length S2) (fun e s => ∃ z5 z6 z7 z8 z9 z10 z11 z12 z13 z14 : Option D, HdB s 0 ((20 + 900 * (t + 1) : Nat) : Int) ∧ s[m]? = some (some (.dic kvs)) ∧ e = [some (.p (.list (ns.map PyData.int))), some (.p (.int (0 + (i : Int)))), some (.loc 0), some (.p (mach k taps)), some (.loc m), z5, z6, z7, z8, z9, z10, z11, z12, z13, z14]) e s := fun e s h1 h2 ⟨y5, y6, y7, y8, y9, y10, y11, y12, y13, y14, h3⟩ => wk_self ⟨y5, y6, y7, y8, y9, y10, y11, y12, y13, y14, h1, h2, h3⟩
        by_cases hlt : (redF k (shG k taps pat) (uniS taps.length) pat.length).2.length < taps.length
        · have hb0 : bs = false := by
            cases bs with
            | false => rfl
            | true => exact absurd hlt (hiff.mp (hbU.mp rfl))
          subst hb0
          rw [if_pos hlt]
          walk_at "rd"
          exact tail _ _ _ _ _ _ _ _ _ hbU fin
        · have hb0 : bs = true := hbU.mpr (hiff.mpr hlt)
          subst hb0
          rw [if_neg hlt]
          walk_at "rd"
          exact tail _ _ _ _ _ _ _ _ _ hbU fin
    · rintro e s ⟨z5, z6, z7, z8, z9, z10, z11, z12, z13, z14, hdb, hs, rfl⟩
      walk_at "rd"
      exact .inr ⟨0, _, Nat.zero_le _, .keep (.keep (.drop (.drop (.drop (.drop (.drop (.drop (.drop (.drop (.drop (.drop (.drop (.drop (.drop .nil)))))))))))))), rfl, _, _, _, _, _, _, _, _, _, _, _, _, _, _, rfl⟩
  · rintro e s ⟨rfl, z1, z2, z3, z4, z5, z6, z7, z8, z9, z10, z11, z12, z13, z14, rfl⟩
    walk_at "rd"
    exact fin_p (q _)
theorem ok_law (T : Txt K mg base) : Ok3 P w K mg base 6 "law" sp_law := by
  obtain ⟨f, fd, F, hm, hb⟩ := T.f_law
  exact Ok3.mk' F hm hb sc_law (fun ds S Q h => by simp only [sp_law] at h; first | (obtain ⟨rfl, _⟩ := h; rfl) | (obtain ⟨_, rfl, _⟩ := h; rfl) | (obtain ⟨_, _, rfl, _⟩ := h; rfl) | (obtain ⟨_, _, _, rfl, _⟩ := h; rfl) | (obtain ⟨_, _, _, _, rfl, _⟩ := h; rfl) | (obtain ⟨_, _, _, _, _, rfl, _⟩ := h; rfl) | (obtain ⟨_, _, _, _, _, _, rfl, _⟩ := h; rfl) | (obtain ⟨_, _, _, _, _, _, _, rfl, _⟩ := h; rfl) | (obtain ⟨_, _, _, _, _, _, _, _, rfl, _⟩ := h; rfl) | (obtain ⟨_, _, _, _, _, _, _, _, _, rfl, _⟩ := h; rfl) | (obtain ⟨_, _, _, _, _, _, _, _, _, _, rfl, _⟩ := h; rfl) | exact h.2) (fun cdv A outer s H E hr => dv_law T hr) rd_law
end
theorem all_mk {l : PySem.W.OpenLaw} {w : World} {K : PySem.W.Frag} {h : Heap} {mg : Str → Option Value} {fa : Addr} (X : K.In h) (G : h.Ns mainGlobals mg) (hfa : mg "law" = some (.ref fa))
    {f0 : Addr} {od0 an0 : Option Addr} {sl0 : Array (Option Value)} {oc0 kV0 dc0 pm0 cd0 ct0 : Value} (a0 : PySem.W.nsIn K mainGlobals "is_number" = some (some (.ref f0))) (l0 : K.lookup f0 = some ⟨oc0, od0, .func (PySem.W.fnOf "is_number" "is_number" (defArgs s_is_number) (defBody s_is_number) (defScope s_is_number) .none kV0 dc0 pm0 an0 cd0 ct0), sl0⟩) (c0 : PySem.W.codeIn K cd0 "is_number" = true) (k0 : PySem.W.keepIn K (.ref f0) = true)
    {f1 : Addr} {od1 an1 : Option Addr} {sl1 : Array (Option Value)} {oc1 kV1 dc1 pm1 cd1 ct1 : Value} (a1 : PySem.W.nsIn K mainGlobals "are_numbers" = some (some (.ref f1))) (l1 : K.lookup f1 = some ⟨oc1, od1, .func (PySem.W.fnOf "are_numbers" "are_numbers" (defArgs s_are_numbers) (defBody s_are_numbers) (defScope s_are_numbers) .none kV1 dc1 pm1 an1 cd1 ct1), sl1⟩) (c1 : PySem.W.codeIn K cd1 "are_numbers" = true) (k1 : PySem.W.keepIn K (.ref f1) = true)
    {f2 : Addr} {od2 an2 : Option Addr} {sl2 : Array (Option Value)} {oc2 kV2 dc2 pm2 cd2 ct2 : Value} (a2 : PySem.W.nsIn K mainGlobals "one_step" = some (some (.ref f2))) (l2 : K.lookup f2 = some ⟨oc2, od2, .func (PySem.W.fnOf "one_step" "one_step" (defArgs s_one_step) (defBody s_one_step) (defScope s_one_step) .none kV2 dc2 pm2 an2 cd2 ct2), sl2⟩) (c2 : PySem.W.codeIn K cd2 "one_step" = true) (k2 : PySem.W.keepIn K (.ref f2) = true)
    {f3 : Addr} {od3 an3 : Option Addr} {sl3 : Array (Option Value)} {oc3 kV3 dc3 pm3 cd3 ct3 : Value} (a3 : PySem.W.nsIn K mainGlobals "round_of" = some (some (.ref f3))) (l3 : K.lookup f3 = some ⟨oc3, od3, .func (PySem.W.fnOf "round_of" "round_of" (defArgs s_round_of) (defBody s_round_of) (defScope s_round_of) .none kV3 dc3 pm3 an3 cd3 ct3), sl3⟩) (c3 : PySem.W.codeIn K cd3 "round_of" = true) (k3 : PySem.W.keepIn K (.ref f3) = true)
    {f4 : Addr} {od4 an4 : Option Addr} {sl4 : Array (Option Value)} {oc4 kV4 dc4 pm4 cd4 ct4 : Value} (a4 : PySem.W.nsIn K mainGlobals "units" = some (some (.ref f4))) (l4 : K.lookup f4 = some ⟨oc4, od4, .func (PySem.W.fnOf "units" "units" (defArgs s_units) (defBody s_units) (defScope s_units) .none kV4 dc4 pm4 an4 cd4 ct4), sl4⟩) (c4 : PySem.W.codeIn K cd4 "units" = true) (k4 : PySem.W.keepIn K (.ref f4) = true)
    {f5 : Addr} {od5 an5 : Option Addr} {sl5 : Array (Option Value)} {oc5 kV5 dc5 pm5 cd5 ct5 : Value} (a5 : PySem.W.nsIn K mainGlobals "shown" = some (some (.ref f5))) (l5 : K.lookup f5 = some ⟨oc5, od5, .func (PySem.W.fnOf "shown" "shown" (defArgs s_shown) (defBody s_shown) (defScope s_shown) .none kV5 dc5 pm5 an5 cd5 ct5), sl5⟩) (c5 : PySem.W.codeIn K cd5 "shown" = true) (k5 : PySem.W.keepIn K (.ref f5) = true)
    {f6 : Addr} {od6 an6 : Option Addr} {sl6 : Array (Option Value)} {oc6 kV6 dc6 pm6 cd6 ct6 : Value} (a6 : PySem.W.nsIn K mainGlobals "parted_by" = some (some (.ref f6))) (l6 : K.lookup f6 = some ⟨oc6, od6, .func (PySem.W.fnOf "parted_by" "parted_by" (defArgs s_parted_by) (defBody s_parted_by) (defScope s_parted_by) .none kV6 dc6 pm6 an6 cd6 ct6), sl6⟩) (c6 : PySem.W.codeIn K cd6 "parted_by" = true) (k6 : PySem.W.keepIn K (.ref f6) = true)
    {f7 : Addr} {od7 an7 : Option Addr} {sl7 : Array (Option Value)} {oc7 kV7 dc7 pm7 cd7 ct7 : Value} (a7 : PySem.W.nsIn K mainGlobals "scaled" = some (some (.ref f7))) (l7 : K.lookup f7 = some ⟨oc7, od7, .func (PySem.W.fnOf "scaled" "scaled" (defArgs s_scaled) (defBody s_scaled) (defScope s_scaled) .none kV7 dc7 pm7 an7 cd7 ct7), sl7⟩) (c7 : PySem.W.codeIn K cd7 "scaled" = true) (k7 : PySem.W.keepIn K (.ref f7) = true)
    {f8 : Addr} {od8 an8 : Option Addr} {sl8 : Array (Option Value)} {oc8 kV8 dc8 pm8 cd8 ct8 : Value} (a8 : PySem.W.nsIn K mainGlobals "less_so_many" = some (some (.ref f8))) (l8 : K.lookup f8 = some ⟨oc8, od8, .func (PySem.W.fnOf "less_so_many" "less_so_many" (defArgs s_less_so_many) (defBody s_less_so_many) (defScope s_less_so_many) .none kV8 dc8 pm8 an8 cd8 ct8), sl8⟩) (c8 : PySem.W.codeIn K cd8 "less_so_many" = true) (k8 : PySem.W.keepIn K (.ref f8) = true)
    {f9 : Addr} {od9 an9 : Option Addr} {sl9 : Array (Option Value)} {oc9 kV9 dc9 pm9 cd9 ct9 : Value} (a9 : PySem.W.nsIn K mainGlobals "reduce_rows" = some (some (.ref f9))) (l9 : K.lookup f9 = some ⟨oc9, od9, .func (PySem.W.fnOf "reduce_rows" "reduce_rows" (defArgs s_reduce_rows) (defBody s_reduce_rows) (defScope s_reduce_rows) .none kV9 dc9 pm9 an9 cd9 ct9), sl9⟩) (c9 : PySem.W.codeIn K cd9 "reduce_rows" = true) (k9 : PySem.W.keepIn K (.ref f9) = true)
    {f10 : Addr} {od10 an10 : Option Addr} {sl10 : Array (Option Value)} {oc10 kV10 dc10 pm10 cd10 ct10 : Value} (a10 : PySem.W.nsIn K mainGlobals "judged" = some (some (.ref f10))) (l10 : K.lookup f10 = some ⟨oc10, od10, .func (PySem.W.fnOf "judged" "judged" (defArgs s_judged) (defBody s_judged) (defScope s_judged) .none kV10 dc10 pm10 an10 cd10 ct10), sl10⟩) (c10 : PySem.W.codeIn K cd10 "judged" = true) (k10 : PySem.W.keepIn K (.ref f10) = true)
    {f11 : Addr} {od11 an11 : Option Addr} {sl11 : Array (Option Value)} {oc11 kV11 dc11 pm11 cd11 ct11 : Value} (a11 : PySem.W.nsIn K mainGlobals "summed" = some (some (.ref f11))) (l11 : K.lookup f11 = some ⟨oc11, od11, .func (PySem.W.fnOf "summed" "summed" (defArgs s_summed) (defBody s_summed) (defScope s_summed) .none kV11 dc11 pm11 an11 cd11 ct11), sl11⟩) (c11 : PySem.W.codeIn K cd11 "summed" = true) (k11 : PySem.W.keepIn K (.ref f11) = true)
    {f12 : Addr} {od12 an12 : Option Addr} {sl12 : Array (Option Value)} {oc12 kV12 dc12 pm12 cd12 ct12 : Value} (a12 : PySem.W.nsIn K mainGlobals "shows_sees" = some (some (.ref f12))) (l12 : K.lookup f12 = some ⟨oc12, od12, .func (PySem.W.fnOf "shows_sees" "shows_sees" (defArgs s_shows_sees) (defBody s_shows_sees) (defScope s_shows_sees) .none kV12 dc12 pm12 an12 cd12 ct12), sl12⟩) (c12 : PySem.W.codeIn K cd12 "shows_sees" = true) (k12 : PySem.W.keepIn K (.ref f12) = true)
    {f13 : Addr} {od13 an13 : Option Addr} {sl13 : Array (Option Value)} {oc13 kV13 dc13 pm13 cd13 ct13 : Value} (a13 : PySem.W.nsIn K mainGlobals "shows_blind" = some (some (.ref f13))) (l13 : K.lookup f13 = some ⟨oc13, od13, .func (PySem.W.fnOf "shows_blind" "shows_blind" (defArgs s_shows_blind) (defBody s_shows_blind) (defScope s_shows_blind) .none kV13 dc13 pm13 an13 cd13 ct13), sl13⟩) (c13 : PySem.W.codeIn K cd13 "shows_blind" = true) (k13 : PySem.W.keepIn K (.ref f13) = true)
    {f14 : Addr} {od14 an14 : Option Addr} {sl14 : Array (Option Value)} {oc14 kV14 dc14 pm14 cd14 ct14 : Value} (a14 : PySem.W.nsIn K mainGlobals "shows_judged" = some (some (.ref f14))) (l14 : K.lookup f14 = some ⟨oc14, od14, .func (PySem.W.fnOf "shows_judged" "shows_judged" (defArgs s_shows_judged) (defBody s_shows_judged) (defScope s_shows_judged) .none kV14 dc14 pm14 an14 cd14 ct14), sl14⟩) (c14 : PySem.W.codeIn K cd14 "shows_judged" = true) (k14 : PySem.W.keepIn K (.ref f14) = true)
    {f15 : Addr} {od15 an15 : Option Addr} {sl15 : Array (Option Value)} {oc15 kV15 dc15 pm15 cd15 ct15 : Value} (a15 : PySem.W.nsIn K mainGlobals "_law_hand" = some (some (.ref f15))) (l15 : K.lookup f15 = some ⟨oc15, od15, .func (PySem.W.fnOf "_law_hand" "_law_hand" (defArgs s__law_hand) (defBody s__law_hand) (defScope s__law_hand) .none kV15 dc15 pm15 an15 cd15 ct15), sl15⟩) (c15 : PySem.W.codeIn K cd15 "_law_hand" = true) (k15 : PySem.W.keepIn K (.ref f15) = true)
    {f16 : Addr} {od16 an16 : Option Addr} {sl16 : Array (Option Value)} {oc16 kV16 dc16 pm16 cd16 ct16 : Value} (a16 : PySem.W.nsIn K mainGlobals "_law_take" = some (some (.ref f16))) (l16 : K.lookup f16 = some ⟨oc16, od16, .func (PySem.W.fnOf "_law_take" "_law_take" (defArgs s__law_take) (defBody s__law_take) (defScope s__law_take) .none kV16 dc16 pm16 an16 cd16 ct16), sl16⟩) (c16 : PySem.W.codeIn K cd16 "_law_take" = true) (k16 : PySem.W.keepIn K (.ref f16) = true)
    {f17 : Addr} {od17 an17 : Option Addr} {sl17 : Array (Option Value)} {oc17 kV17 dc17 pm17 cd17 ct17 : Value} (a17 : PySem.W.nsIn K mainGlobals "_law_pick" = some (some (.ref f17))) (l17 : K.lookup f17 = some ⟨oc17, od17, .func (PySem.W.fnOf "_law_pick" "_law_pick" (defArgs s__law_pick) (defBody s__law_pick) (defScope s__law_pick) .none kV17 dc17 pm17 an17 cd17 ct17), sl17⟩) (c17 : PySem.W.codeIn K cd17 "_law_pick" = true) (k17 : PySem.W.keepIn K (.ref f17) = true)
    {f18 : Addr} {od18 an18 : Option Addr} {sl18 : Array (Option Value)} {oc18 kV18 dc18 pm18 cd18 ct18 : Value} (a18 : PySem.W.nsIn K mainGlobals "_law_machine" = some (some (.ref f18))) (l18 : K.lookup f18 = some ⟨oc18, od18, .func (PySem.W.fnOf "_law_machine" "_law_machine" (defArgs s__law_machine) (defBody s__law_machine) (defScope s__law_machine) .none kV18 dc18 pm18 an18 cd18 ct18), sl18⟩) (c18 : PySem.W.codeIn K cd18 "_law_machine" = true) (k18 : PySem.W.keepIn K (.ref f18) = true)
    {f19 : Addr} {od19 an19 : Option Addr} {sl19 : Array (Option Value)} {oc19 kV19 dc19 pm19 cd19 ct19 : Value} (a19 : PySem.W.nsIn K mainGlobals "_law_step" = some (some (.ref f19))) (l19 : K.lookup f19 = some ⟨oc19, od19, .func (PySem.W.fnOf "_law_step" "_law_step" (defArgs s__law_step) (defBody s__law_step) (defScope s__law_step) .none kV19 dc19 pm19 an19 cd19 ct19), sl19⟩) (c19 : PySem.W.codeIn K cd19 "_law_step" = true) (k19 : PySem.W.keepIn K (.ref f19) = true)
    {f20 : Addr} {od20 an20 : Option Addr} {sl20 : Array (Option Value)} {oc20 kV20 dc20 pm20 cd20 ct20 : Value} (a20 : PySem.W.nsIn K mainGlobals "_law_round" = some (some (.ref f20))) (l20 : K.lookup f20 = some ⟨oc20, od20, .func (PySem.W.fnOf "_law_round" "_law_round" (defArgs s__law_round) (defBody s__law_round) (defScope s__law_round) .none kV20 dc20 pm20 an20 cd20 ct20), sl20⟩) (c20 : PySem.W.codeIn K cd20 "_law_round" = true) (k20 : PySem.W.keepIn K (.ref f20) = true)
    {f21 : Addr} {od21 an21 : Option Addr} {sl21 : Array (Option Value)} {oc21 kV21 dc21 pm21 cd21 ct21 : Value} (a21 : PySem.W.nsIn K mainGlobals "_law_pattern" = some (some (.ref f21))) (l21 : K.lookup f21 = some ⟨oc21, od21, .func (PySem.W.fnOf "_law_pattern" "_law_pattern" (defArgs s__law_pattern) (defBody s__law_pattern) (defScope s__law_pattern) .none kV21 dc21 pm21 an21 cd21 ct21), sl21⟩) (c21 : PySem.W.codeIn K cd21 "_law_pattern" = true) (k21 : PySem.W.keepIn K (.ref f21) = true)
    {f22 : Addr} {od22 an22 : Option Addr} {sl22 : Array (Option Value)} {oc22 kV22 dc22 pm22 cd22 ct22 : Value} (a22 : PySem.W.nsIn K mainGlobals "_law_states" = some (some (.ref f22))) (l22 : K.lookup f22 = some ⟨oc22, od22, .func (PySem.W.fnOf "_law_states" "_law_states" (defArgs s__law_states) (defBody s__law_states) (defScope s__law_states) .none kV22 dc22 pm22 an22 cd22 ct22), sl22⟩) (c22 : PySem.W.codeIn K cd22 "_law_states" = true) (k22 : PySem.W.keepIn K (.ref f22) = true)
    {f23 : Addr} {od23 an23 : Option Addr} {sl23 : Array (Option Value)} {oc23 kV23 dc23 pm23 cd23 ct23 : Value} (a23 : PySem.W.nsIn K mainGlobals "_law_places" = some (some (.ref f23))) (l23 : K.lookup f23 = some ⟨oc23, od23, .func (PySem.W.fnOf "_law_places" "_law_places" (defArgs s__law_places) (defBody s__law_places) (defScope s__law_places) .none kV23 dc23 pm23 an23 cd23 ct23), sl23⟩) (c23 : PySem.W.codeIn K cd23 "_law_places" = true) (k23 : PySem.W.keepIn K (.ref f23) = true)
    {f24 : Addr} {od24 an24 : Option Addr} {sl24 : Array (Option Value)} {oc24 kV24 dc24 pm24 cd24 ct24 : Value} (a24 : PySem.W.nsIn K mainGlobals "_law_shows" = some (some (.ref f24))) (l24 : K.lookup f24 = some ⟨oc24, od24, .func (PySem.W.fnOf "_law_shows" "_law_shows" (defArgs s__law_shows) (defBody s__law_shows) (defScope s__law_shows) .none kV24 dc24 pm24 an24 cd24 ct24), sl24⟩) (c24 : PySem.W.codeIn K cd24 "_law_shows" = true) (k24 : PySem.W.keepIn K (.ref f24) = true)
    {f25 : Addr} {od25 an25 : Option Addr} {sl25 : Array (Option Value)} {oc25 kV25 dc25 pm25 cd25 ct25 : Value} (a25 : PySem.W.nsIn K mainGlobals "_law_paper" = some (some (.ref f25))) (l25 : K.lookup f25 = some ⟨oc25, od25, .func (PySem.W.fnOf "_law_paper" "_law_paper" (defArgs s__law_paper) (defBody s__law_paper) (defScope s__law_paper) .none kV25 dc25 pm25 an25 cd25 ct25), sl25⟩) (c25 : PySem.W.codeIn K cd25 "_law_paper" = true) (k25 : PySem.W.keepIn K (.ref f25) = true)
    {f26 : Addr} {od26 an26 : Option Addr} {sl26 : Array (Option Value)} {oc26 kV26 dc26 pm26 cd26 ct26 : Value} (a26 : PySem.W.nsIn K mainGlobals "law" = some (some (.ref f26))) (l26 : K.lookup f26 = some ⟨oc26, od26, .func (PySem.W.fnOf "law" "law" (defArgs s_law) (defBody s_law) (defScope s_law) .none kV26 dc26 pm26 an26 cd26 ct26), sl26⟩) (c26 : PySem.W.codeIn K cd26 "law" = true) (k26 : PySem.W.keepIn K (.ref f26) = true)
    (nt : NoTK K)
    (z_all : PySem.W.nsIn K mainGlobals "all" = some none)
    (z_any : PySem.W.nsIn K mainGlobals "any" = some none)
    (z_bool : PySem.W.nsIn K mainGlobals "bool" = some none)
    (z_enumerate : PySem.W.nsIn K mainGlobals "enumerate" = some none)
    (z_int : PySem.W.nsIn K mainGlobals "int" = some none)
    (z_isinstance : PySem.W.nsIn K mainGlobals "isinstance" = some none)
    (z_len : PySem.W.nsIn K mainGlobals "len" = some none)
    (z_max : PySem.W.nsIn K mainGlobals "max" = some none)
    (z_min : PySem.W.nsIn K mainGlobals "min" = some none)
    (z_range : PySem.W.nsIn K mainGlobals "range" = some none)
    (z_set : PySem.W.nsIn K mainGlobals "set" = some none)
    (z_str : PySem.W.nsIn K mainGlobals "str" = some none)
    (z_sum : PySem.W.nsIn K mainGlobals "sum" = some none)
    (z_tuple : PySem.W.nsIn K mainGlobals "tuple" = some none)
    (z_zip : PySem.W.nsIn K mainGlobals "zip" = some none)
    : ∃ fd : FuncData, (∀ (s : Shared) (v : Value), BindsTo s fd ⟨[v], []⟩ [("_law_script", v)]) ∧ ∀ base : Heap, K.In base → base.Ns mainGlobals mg → FnOk l.prog w K mg base CX0 6 fa fd ["_law_script"] (fun vs H Q _ => lowC K sp_law vs H Q) := by
  have e := hfa.symm.trans (PySem.W.mg_of X G a26)
  cases e
  have F0 := fun_mk (st := s_is_number) l0 c0 k0
  have B0 := F0.binds (ps := ["thing", "bound"]) fun _ _ _ _ _ _ us hl => match us, hl with | [_, _], _ => rfl
  have F1 := fun_mk (st := s_are_numbers) l1 c1 k1
  have B1 := F1.binds (ps := ["thing", "bound"]) fun _ _ _ _ _ _ us hl => match us, hl with | [_, _], _ => rfl
  have F2 := fun_mk (st := s_one_step) l2 c2 k2
  have B2 := F2.binds (ps := ["machine", "state"]) fun _ _ _ _ _ _ us hl => match us, hl with | [_, _], _ => rfl
  have F3 := fun_mk (st := s_round_of) l3 c3 k3
  have B3 := F3.binds (ps := ["machine", "state"]) fun _ _ _ _ _ _ us hl => match us, hl with | [_, _], _ => rfl
  have F4 := fun_mk (st := s_units) l4 c4 k4
  have B4 := F4.binds (ps := ["machine"]) fun _ _ _ _ _ _ us hl => match us, hl with | [_], _ => rfl
  have F5 := fun_mk (st := s_shown) l5 c5 k5
  have B5 := F5.binds (ps := ["machine", "pattern", "state"]) fun _ _ _ _ _ _ us hl => match us, hl with | [_, _, _], _ => rfl
  have F6 := fun_mk (st := s_parted_by) l6 c6 k6
  have B6 := F6.binds (ps := ["number", "k"]) fun _ _ _ _ _ _ us hl => match us, hl with | [_, _], _ => rfl
  have F7 := fun_mk (st := s_scaled) l7 c7 k7
  have B7 := F7.binds (ps := ["row", "by", "k"]) fun _ _ _ _ _ _ us hl => match us, hl with | [_, _, _], _ => rfl
  have F8 := fun_mk (st := s_less_so_many) l8 c8 k8
  have B8 := F8.binds (ps := ["row", "other", "by", "k"]) fun _ _ _ _ _ _ us hl => match us, hl with | [_, _, _, _], _ => rfl
  have F9 := fun_mk (st := s_reduce_rows) l9 c9 k9
  have B9 := F9.binds (ps := ["rows", "wide", "k"]) fun _ _ _ _ _ _ us hl => match us, hl with | [_, _, _], _ => rfl
  have F10 := fun_mk (st := s_judged) l10 c10 k10
  have B10 := F10.binds (ps := ["machine", "pattern"]) fun _ _ _ _ _ _ us hl => match us, hl with | [_, _], _ => rfl
  have F11 := fun_mk (st := s_summed) l11 c11 k11
  have B11 := F11.binds (ps := ["paper", "signs", "k"]) fun _ _ _ _ _ _ us hl => match us, hl with | [_, _, _], _ => rfl
  have F12 := fun_mk (st := s_shows_sees) l12 c12 k12
  have B12 := F12.binds (ps := ["machine", "pattern", "paper"]) fun _ _ _ _ _ _ us hl => match us, hl with | [_, _, _], _ => rfl
  have F13 := fun_mk (st := s_shows_blind) l13 c13 k13
  have B13 := F13.binds (ps := ["machine", "pattern", "state"]) fun _ _ _ _ _ _ us hl => match us, hl with | [_, _, _], _ => rfl
  have F14 := fun_mk (st := s_shows_judged) l14 c14 k14
  have B14 := F14.binds (ps := ["machine", "pattern", "thing"]) fun _ _ _ _ _ _ us hl => match us, hl with | [_, _, _], _ => rfl
  have F15 := fun_mk (st := s__law_hand) l15 c15 k15
  have B15 := F15.binds (ps := ["_law_script", "_law_k"]) fun _ _ _ _ _ _ us hl => match us, hl with | [_, _], _ => rfl
  have F16 := fun_mk (st := s__law_take) l16 c16 k16
  have B16 := F16.binds (ps := ["_law_hand_here", "_law_many"]) fun _ _ _ _ _ _ us hl => match us, hl with | [_, _], _ => rfl
  have F17 := fun_mk (st := s__law_pick) l17 c17 k17
  have B17 := F17.binds (ps := ["_law_hand_here", "_law_some"]) fun _ _ _ _ _ _ us hl => match us, hl with | [_, _], _ => rfl
  have F18 := fun_mk (st := s__law_machine) l18 c18 k18
  have B18 := F18.binds (ps := ["_law_hand_here"]) fun _ _ _ _ _ _ us hl => match us, hl with | [_], _ => rfl
  have F19 := fun_mk (st := s__law_step) l19 c19 k19
  have B19 := F19.binds (ps := ["_law_machine_here", "_law_state"]) fun _ _ _ _ _ _ us hl => match us, hl with | [_, _], _ => rfl
  have F20 := fun_mk (st := s__law_round) l20 c20 k20
  have B20 := F20.binds (ps := ["_law_machine_here", "_law_state"]) fun _ _ _ _ _ _ us hl => match us, hl with | [_, _], _ => rfl
  have F21 := fun_mk (st := s__law_pattern) l21 c21 k21
  have B21 := F21.binds (ps := ["_law_hand_here", "_law_most"]) fun _ _ _ _ _ _ us hl => match us, hl with | [_, _], _ => rfl
  have F22 := fun_mk (st := s__law_states) l22 c22 k22
  have B22 := F22.binds (ps := ["_law_machine_here"]) fun _ _ _ _ _ _ us hl => match us, hl with | [_], _ => rfl
  have F23 := fun_mk (st := s__law_places) l23 c23 k23
  have B23 := F23.binds (ps := ["_law_machine_here"]) fun _ _ _ _ _ _ us hl => match us, hl with | [_], _ => rfl
  have F24 := fun_mk (st := s__law_shows) l24 c24 k24
  have B24 := F24.binds (ps := ["_law_places_here", "_law_pattern_here", "_law_state"]) fun _ _ _ _ _ _ us hl => match us, hl with | [_, _, _], _ => rfl
  have F25 := fun_mk (st := s__law_paper) l25 c25 k25
  have B25 := F25.binds (ps := ["_law_hand_here", "_law_machine_here", "_law_pattern_here"]) fun _ _ _ _ _ _ us hl => match us, hl with | [_, _, _], _ => rfl
  have F26 := fun_mk (st := s_law) l26 c26 k26
  have B26 := F26.binds (ps := ["_law_script"]) fun _ _ _ _ _ _ us hl => match us, hl with | [_], _ => rfl
  refine ⟨PySem.W.fnOf "law" "law" (defArgs s_law) (defBody s_law) (defScope s_law) .none kV26 dc26 pm26 an26 cd26 ct26, fun s v => .of_eq rfl, fun base _ _ => ?_⟩
  have T : Txt K mg base := { nt := nt, b_all := PySem.W.mg_none_of X G z_all, b_any := PySem.W.mg_none_of X G z_any, b_bool := PySem.W.mg_none_of X G z_bool, b_enumerate := PySem.W.mg_none_of X G z_enumerate, b_int := PySem.W.mg_none_of X G z_int, b_isinstance := PySem.W.mg_none_of X G z_isinstance, b_len := PySem.W.mg_none_of X G z_len, b_max := PySem.W.mg_none_of X G z_max, b_min := PySem.W.mg_none_of X G z_min, b_range := PySem.W.mg_none_of X G z_range, b_set := PySem.W.mg_none_of X G z_set, b_str := PySem.W.mg_none_of X G z_str, b_sum := PySem.W.mg_none_of X G z_sum, b_tuple := PySem.W.mg_none_of X G z_tuple, b_zip := PySem.W.mg_none_of X G z_zip, f_is_number := ⟨_, _, F0, PySem.W.mg_of X G a0, B0⟩, f_are_numbers := ⟨_, _, F1, PySem.W.mg_of X G a1, B1⟩, f_one_step := ⟨_, _, F2, PySem.W.mg_of X G a2, B2⟩, f_round_of := ⟨_, _, F3, PySem.W.mg_of X G a3, B3⟩, f_units := ⟨_, _, F4, PySem.W.mg_of X G a4, B4⟩, f_shown := ⟨_, _, F5, PySem.W.mg_of X G a5, B5⟩, f_parted_by := ⟨_, _, F6, PySem.W.mg_of X G a6, B6⟩, f_scaled := ⟨_, _, F7, PySem.W.mg_of X G a7, B7⟩, f_less_so_many := ⟨_, _, F8, PySem.W.mg_of X G a8, B8⟩, f_reduce_rows := ⟨_, _, F9, PySem.W.mg_of X G a9, B9⟩, f_judged := ⟨_, _, F10, PySem.W.mg_of X G a10, B10⟩, f_summed := ⟨_, _, F11, PySem.W.mg_of X G a11, B11⟩, f_shows_sees := ⟨_, _, F12, PySem.W.mg_of X G a12, B12⟩, f_shows_blind := ⟨_, _, F13, PySem.W.mg_of X G a13, B13⟩, f_shows_judged := ⟨_, _, F14, PySem.W.mg_of X G a14, B14⟩, f__law_hand := ⟨_, _, F15, PySem.W.mg_of X G a15, B15⟩, f__law_take := ⟨_, _, F16, PySem.W.mg_of X G a16, B16⟩, f__law_pick := ⟨_, _, F17, PySem.W.mg_of X G a17, B17⟩, f__law_machine := ⟨_, _, F18, PySem.W.mg_of X G a18, B18⟩, f__law_step := ⟨_, _, F19, PySem.W.mg_of X G a19, B19⟩, f__law_round := ⟨_, _, F20, PySem.W.mg_of X G a20, B20⟩, f__law_pattern := ⟨_, _, F21, PySem.W.mg_of X G a21, B21⟩, f__law_states := ⟨_, _, F22, PySem.W.mg_of X G a22, B22⟩, f__law_places := ⟨_, _, F23, PySem.W.mg_of X G a23, B23⟩, f__law_shows := ⟨_, _, F24, PySem.W.mg_of X G a24, B24⟩, f__law_paper := ⟨_, _, F25, PySem.W.mg_of X G a25, B25⟩, f_law := ⟨_, _, F26, PySem.W.mg_of X G a26, B26⟩ }
  exact Ok3.fnOk F26 B26 sc_law (fun ds S Q h => by simp only [sp_law] at h; first | (obtain ⟨_, rfl, _⟩ := h; rfl) | exact h.2) (fun cdv A outer s H E hr => dv_law T hr) rd_law
theorem all_mkE {l : PySem.W.OpenLaw} {w : World} {K : PySem.W.Frag} {h : Heap} {mg : Str → Option Value} {fa : Addr} (X : (filtK K).In h) (G : h.Ns mainGlobals mg) (hfa : mg "law" = some (.ref fa))
    {f0 : Addr} {od0 an0 : Option Addr} {sl0 : Array (Option Value)} {oc0 kV0 dc0 pm0 cd0 ct0 : Value} (a0 : PySem.W.nsIn K mainGlobals "is_number" = some (some (.ref f0))) (l0 : K.lookup f0 = some ⟨oc0, od0, .func (PySem.W.fnOf "is_number" "is_number" (defArgs s_is_number) (defBody s_is_number) (defScope s_is_number) .none kV0 dc0 pm0 an0 cd0 ct0), sl0⟩) (c0 : PySem.W.codeIn K cd0 "is_number" = true)
    {f1 : Addr} {od1 an1 : Option Addr} {sl1 : Array (Option Value)} {oc1 kV1 dc1 pm1 cd1 ct1 : Value} (a1 : PySem.W.nsIn K mainGlobals "are_numbers" = some (some (.ref f1))) (l1 : K.lookup f1 = some ⟨oc1, od1, .func (PySem.W.fnOf "are_numbers" "are_numbers" (defArgs s_are_numbers) (defBody s_are_numbers) (defScope s_are_numbers) .none kV1 dc1 pm1 an1 cd1 ct1), sl1⟩) (c1 : PySem.W.codeIn K cd1 "are_numbers" = true)
    {f2 : Addr} {od2 an2 : Option Addr} {sl2 : Array (Option Value)} {oc2 kV2 dc2 pm2 cd2 ct2 : Value} (a2 : PySem.W.nsIn K mainGlobals "one_step" = some (some (.ref f2))) (l2 : K.lookup f2 = some ⟨oc2, od2, .func (PySem.W.fnOf "one_step" "one_step" (defArgs s_one_step) (defBody s_one_step) (defScope s_one_step) .none kV2 dc2 pm2 an2 cd2 ct2), sl2⟩) (c2 : PySem.W.codeIn K cd2 "one_step" = true)
    {f3 : Addr} {od3 an3 : Option Addr} {sl3 : Array (Option Value)} {oc3 kV3 dc3 pm3 cd3 ct3 : Value} (a3 : PySem.W.nsIn K mainGlobals "round_of" = some (some (.ref f3))) (l3 : K.lookup f3 = some ⟨oc3, od3, .func (PySem.W.fnOf "round_of" "round_of" (defArgs s_round_of) (defBody s_round_of) (defScope s_round_of) .none kV3 dc3 pm3 an3 cd3 ct3), sl3⟩) (c3 : PySem.W.codeIn K cd3 "round_of" = true)
    {f4 : Addr} {od4 an4 : Option Addr} {sl4 : Array (Option Value)} {oc4 kV4 dc4 pm4 cd4 ct4 : Value} (a4 : PySem.W.nsIn K mainGlobals "units" = some (some (.ref f4))) (l4 : K.lookup f4 = some ⟨oc4, od4, .func (PySem.W.fnOf "units" "units" (defArgs s_units) (defBody s_units) (defScope s_units) .none kV4 dc4 pm4 an4 cd4 ct4), sl4⟩) (c4 : PySem.W.codeIn K cd4 "units" = true)
    {f5 : Addr} {od5 an5 : Option Addr} {sl5 : Array (Option Value)} {oc5 kV5 dc5 pm5 cd5 ct5 : Value} (a5 : PySem.W.nsIn K mainGlobals "shown" = some (some (.ref f5))) (l5 : K.lookup f5 = some ⟨oc5, od5, .func (PySem.W.fnOf "shown" "shown" (defArgs s_shown) (defBody s_shown) (defScope s_shown) .none kV5 dc5 pm5 an5 cd5 ct5), sl5⟩) (c5 : PySem.W.codeIn K cd5 "shown" = true)
    {f6 : Addr} {od6 an6 : Option Addr} {sl6 : Array (Option Value)} {oc6 kV6 dc6 pm6 cd6 ct6 : Value} (a6 : PySem.W.nsIn K mainGlobals "parted_by" = some (some (.ref f6))) (l6 : K.lookup f6 = some ⟨oc6, od6, .func (PySem.W.fnOf "parted_by" "parted_by" (defArgs s_parted_by) (defBody s_parted_by) (defScope s_parted_by) .none kV6 dc6 pm6 an6 cd6 ct6), sl6⟩) (c6 : PySem.W.codeIn K cd6 "parted_by" = true)
    {f7 : Addr} {od7 an7 : Option Addr} {sl7 : Array (Option Value)} {oc7 kV7 dc7 pm7 cd7 ct7 : Value} (a7 : PySem.W.nsIn K mainGlobals "scaled" = some (some (.ref f7))) (l7 : K.lookup f7 = some ⟨oc7, od7, .func (PySem.W.fnOf "scaled" "scaled" (defArgs s_scaled) (defBody s_scaled) (defScope s_scaled) .none kV7 dc7 pm7 an7 cd7 ct7), sl7⟩) (c7 : PySem.W.codeIn K cd7 "scaled" = true)
    {f8 : Addr} {od8 an8 : Option Addr} {sl8 : Array (Option Value)} {oc8 kV8 dc8 pm8 cd8 ct8 : Value} (a8 : PySem.W.nsIn K mainGlobals "less_so_many" = some (some (.ref f8))) (l8 : K.lookup f8 = some ⟨oc8, od8, .func (PySem.W.fnOf "less_so_many" "less_so_many" (defArgs s_less_so_many) (defBody s_less_so_many) (defScope s_less_so_many) .none kV8 dc8 pm8 an8 cd8 ct8), sl8⟩) (c8 : PySem.W.codeIn K cd8 "less_so_many" = true)
    {f9 : Addr} {od9 an9 : Option Addr} {sl9 : Array (Option Value)} {oc9 kV9 dc9 pm9 cd9 ct9 : Value} (a9 : PySem.W.nsIn K mainGlobals "reduce_rows" = some (some (.ref f9))) (l9 : K.lookup f9 = some ⟨oc9, od9, .func (PySem.W.fnOf "reduce_rows" "reduce_rows" (defArgs s_reduce_rows) (defBody s_reduce_rows) (defScope s_reduce_rows) .none kV9 dc9 pm9 an9 cd9 ct9), sl9⟩) (c9 : PySem.W.codeIn K cd9 "reduce_rows" = true)
    {f10 : Addr} {od10 an10 : Option Addr} {sl10 : Array (Option Value)} {oc10 kV10 dc10 pm10 cd10 ct10 : Value} (a10 : PySem.W.nsIn K mainGlobals "judged" = some (some (.ref f10))) (l10 : K.lookup f10 = some ⟨oc10, od10, .func (PySem.W.fnOf "judged" "judged" (defArgs s_judged) (defBody s_judged) (defScope s_judged) .none kV10 dc10 pm10 an10 cd10 ct10), sl10⟩) (c10 : PySem.W.codeIn K cd10 "judged" = true)
    {f11 : Addr} {od11 an11 : Option Addr} {sl11 : Array (Option Value)} {oc11 kV11 dc11 pm11 cd11 ct11 : Value} (a11 : PySem.W.nsIn K mainGlobals "summed" = some (some (.ref f11))) (l11 : K.lookup f11 = some ⟨oc11, od11, .func (PySem.W.fnOf "summed" "summed" (defArgs s_summed) (defBody s_summed) (defScope s_summed) .none kV11 dc11 pm11 an11 cd11 ct11), sl11⟩) (c11 : PySem.W.codeIn K cd11 "summed" = true)
    {f12 : Addr} {od12 an12 : Option Addr} {sl12 : Array (Option Value)} {oc12 kV12 dc12 pm12 cd12 ct12 : Value} (a12 : PySem.W.nsIn K mainGlobals "shows_sees" = some (some (.ref f12))) (l12 : K.lookup f12 = some ⟨oc12, od12, .func (PySem.W.fnOf "shows_sees" "shows_sees" (defArgs s_shows_sees) (defBody s_shows_sees) (defScope s_shows_sees) .none kV12 dc12 pm12 an12 cd12 ct12), sl12⟩) (c12 : PySem.W.codeIn K cd12 "shows_sees" = true)
    {f13 : Addr} {od13 an13 : Option Addr} {sl13 : Array (Option Value)} {oc13 kV13 dc13 pm13 cd13 ct13 : Value} (a13 : PySem.W.nsIn K mainGlobals "shows_blind" = some (some (.ref f13))) (l13 : K.lookup f13 = some ⟨oc13, od13, .func (PySem.W.fnOf "shows_blind" "shows_blind" (defArgs s_shows_blind) (defBody s_shows_blind) (defScope s_shows_blind) .none kV13 dc13 pm13 an13 cd13 ct13), sl13⟩) (c13 : PySem.W.codeIn K cd13 "shows_blind" = true)
    {f14 : Addr} {od14 an14 : Option Addr} {sl14 : Array (Option Value)} {oc14 kV14 dc14 pm14 cd14 ct14 : Value} (a14 : PySem.W.nsIn K mainGlobals "shows_judged" = some (some (.ref f14))) (l14 : K.lookup f14 = some ⟨oc14, od14, .func (PySem.W.fnOf "shows_judged" "shows_judged" (defArgs s_shows_judged) (defBody s_shows_judged) (defScope s_shows_judged) .none kV14 dc14 pm14 an14 cd14 ct14), sl14⟩) (c14 : PySem.W.codeIn K cd14 "shows_judged" = true)
    {f15 : Addr} {od15 an15 : Option Addr} {sl15 : Array (Option Value)} {oc15 kV15 dc15 pm15 cd15 ct15 : Value} (a15 : PySem.W.nsIn K mainGlobals "_law_hand" = some (some (.ref f15))) (l15 : K.lookup f15 = some ⟨oc15, od15, .func (PySem.W.fnOf "_law_hand" "_law_hand" (defArgs s__law_hand) (defBody s__law_hand) (defScope s__law_hand) .none kV15 dc15 pm15 an15 cd15 ct15), sl15⟩) (c15 : PySem.W.codeIn K cd15 "_law_hand" = true)
    {f16 : Addr} {od16 an16 : Option Addr} {sl16 : Array (Option Value)} {oc16 kV16 dc16 pm16 cd16 ct16 : Value} (a16 : PySem.W.nsIn K mainGlobals "_law_take" = some (some (.ref f16))) (l16 : K.lookup f16 = some ⟨oc16, od16, .func (PySem.W.fnOf "_law_take" "_law_take" (defArgs s__law_take) (defBody s__law_take) (defScope s__law_take) .none kV16 dc16 pm16 an16 cd16 ct16), sl16⟩) (c16 : PySem.W.codeIn K cd16 "_law_take" = true)
    {f17 : Addr} {od17 an17 : Option Addr} {sl17 : Array (Option Value)} {oc17 kV17 dc17 pm17 cd17 ct17 : Value} (a17 : PySem.W.nsIn K mainGlobals "_law_pick" = some (some (.ref f17))) (l17 : K.lookup f17 = some ⟨oc17, od17, .func (PySem.W.fnOf "_law_pick" "_law_pick" (defArgs s__law_pick) (defBody s__law_pick) (defScope s__law_pick) .none kV17 dc17 pm17 an17 cd17 ct17), sl17⟩) (c17 : PySem.W.codeIn K cd17 "_law_pick" = true)
    {f18 : Addr} {od18 an18 : Option Addr} {sl18 : Array (Option Value)} {oc18 kV18 dc18 pm18 cd18 ct18 : Value} (a18 : PySem.W.nsIn K mainGlobals "_law_machine" = some (some (.ref f18))) (l18 : K.lookup f18 = some ⟨oc18, od18, .func (PySem.W.fnOf "_law_machine" "_law_machine" (defArgs s__law_machine) (defBody s__law_machine) (defScope s__law_machine) .none kV18 dc18 pm18 an18 cd18 ct18), sl18⟩) (c18 : PySem.W.codeIn K cd18 "_law_machine" = true)
    {f19 : Addr} {od19 an19 : Option Addr} {sl19 : Array (Option Value)} {oc19 kV19 dc19 pm19 cd19 ct19 : Value} (a19 : PySem.W.nsIn K mainGlobals "_law_step" = some (some (.ref f19))) (l19 : K.lookup f19 = some ⟨oc19, od19, .func (PySem.W.fnOf "_law_step" "_law_step" (defArgs s__law_step) (defBody s__law_step) (defScope s__law_step) .none kV19 dc19 pm19 an19 cd19 ct19), sl19⟩) (c19 : PySem.W.codeIn K cd19 "_law_step" = true)
    {f20 : Addr} {od20 an20 : Option Addr} {sl20 : Array (Option Value)} {oc20 kV20 dc20 pm20 cd20 ct20 : Value} (a20 : PySem.W.nsIn K mainGlobals "_law_round" = some (some (.ref f20))) (l20 : K.lookup f20 = some ⟨oc20, od20, .func (PySem.W.fnOf "_law_round" "_law_round" (defArgs s__law_round) (defBody s__law_round) (defScope s__law_round) .none kV20 dc20 pm20 an20 cd20 ct20), sl20⟩) (c20 : PySem.W.codeIn K cd20 "_law_round" = true)
    {f21 : Addr} {od21 an21 : Option Addr} {sl21 : Array (Option Value)} {oc21 kV21 dc21 pm21 cd21 ct21 : Value} (a21 : PySem.W.nsIn K mainGlobals "_law_pattern" = some (some (.ref f21))) (l21 : K.lookup f21 = some ⟨oc21, od21, .func (PySem.W.fnOf "_law_pattern" "_law_pattern" (defArgs s__law_pattern) (defBody s__law_pattern) (defScope s__law_pattern) .none kV21 dc21 pm21 an21 cd21 ct21), sl21⟩) (c21 : PySem.W.codeIn K cd21 "_law_pattern" = true)
    {f22 : Addr} {od22 an22 : Option Addr} {sl22 : Array (Option Value)} {oc22 kV22 dc22 pm22 cd22 ct22 : Value} (a22 : PySem.W.nsIn K mainGlobals "_law_states" = some (some (.ref f22))) (l22 : K.lookup f22 = some ⟨oc22, od22, .func (PySem.W.fnOf "_law_states" "_law_states" (defArgs s__law_states) (defBody s__law_states) (defScope s__law_states) .none kV22 dc22 pm22 an22 cd22 ct22), sl22⟩) (c22 : PySem.W.codeIn K cd22 "_law_states" = true)
    {f23 : Addr} {od23 an23 : Option Addr} {sl23 : Array (Option Value)} {oc23 kV23 dc23 pm23 cd23 ct23 : Value} (a23 : PySem.W.nsIn K mainGlobals "_law_places" = some (some (.ref f23))) (l23 : K.lookup f23 = some ⟨oc23, od23, .func (PySem.W.fnOf "_law_places" "_law_places" (defArgs s__law_places) (defBody s__law_places) (defScope s__law_places) .none kV23 dc23 pm23 an23 cd23 ct23), sl23⟩) (c23 : PySem.W.codeIn K cd23 "_law_places" = true)
    {f24 : Addr} {od24 an24 : Option Addr} {sl24 : Array (Option Value)} {oc24 kV24 dc24 pm24 cd24 ct24 : Value} (a24 : PySem.W.nsIn K mainGlobals "_law_shows" = some (some (.ref f24))) (l24 : K.lookup f24 = some ⟨oc24, od24, .func (PySem.W.fnOf "_law_shows" "_law_shows" (defArgs s__law_shows) (defBody s__law_shows) (defScope s__law_shows) .none kV24 dc24 pm24 an24 cd24 ct24), sl24⟩) (c24 : PySem.W.codeIn K cd24 "_law_shows" = true)
    {f25 : Addr} {od25 an25 : Option Addr} {sl25 : Array (Option Value)} {oc25 kV25 dc25 pm25 cd25 ct25 : Value} (a25 : PySem.W.nsIn K mainGlobals "_law_paper" = some (some (.ref f25))) (l25 : K.lookup f25 = some ⟨oc25, od25, .func (PySem.W.fnOf "_law_paper" "_law_paper" (defArgs s__law_paper) (defBody s__law_paper) (defScope s__law_paper) .none kV25 dc25 pm25 an25 cd25 ct25), sl25⟩) (c25 : PySem.W.codeIn K cd25 "_law_paper" = true)
    {f26 : Addr} {od26 an26 : Option Addr} {sl26 : Array (Option Value)} {oc26 kV26 dc26 pm26 cd26 ct26 : Value} (a26 : PySem.W.nsIn K mainGlobals "law" = some (some (.ref f26))) (l26 : K.lookup f26 = some ⟨oc26, od26, .func (PySem.W.fnOf "law" "law" (defArgs s_law) (defBody s_law) (defScope s_law) .none kV26 dc26 pm26 an26 cd26 ct26), sl26⟩) (c26 : PySem.W.codeIn K cd26 "law" = true)
    (z_all : PySem.W.nsIn K mainGlobals "all" = some none)
    (z_any : PySem.W.nsIn K mainGlobals "any" = some none)
    (z_bool : PySem.W.nsIn K mainGlobals "bool" = some none)
    (z_enumerate : PySem.W.nsIn K mainGlobals "enumerate" = some none)
    (z_int : PySem.W.nsIn K mainGlobals "int" = some none)
    (z_isinstance : PySem.W.nsIn K mainGlobals "isinstance" = some none)
    (z_len : PySem.W.nsIn K mainGlobals "len" = some none)
    (z_max : PySem.W.nsIn K mainGlobals "max" = some none)
    (z_min : PySem.W.nsIn K mainGlobals "min" = some none)
    (z_range : PySem.W.nsIn K mainGlobals "range" = some none)
    (z_set : PySem.W.nsIn K mainGlobals "set" = some none)
    (z_str : PySem.W.nsIn K mainGlobals "str" = some none)
    (z_sum : PySem.W.nsIn K mainGlobals "sum" = some none)
    (z_tuple : PySem.W.nsIn K mainGlobals "tuple" = some none)
    (z_zip : PySem.W.nsIn K mainGlobals "zip" = some none)
    : ∃ fd : FuncData, (∀ (s : Shared) (v : Value), BindsTo s fd ⟨[v], []⟩ [("_law_script", v)]) ∧ ∀ base : Heap, (filtK K).In base → base.Ns mainGlobals mg → FnOk l.prog w (filtK K) mg base CX0 6 fa fd ["_law_script"] (fun vs H Q _ => lowC (filtK K) sp_law vs H Q) :=
  all_mk X G hfa (nsIn_filt a0) (filt_keep (by rfl) l0) (codeIn_filt c0) (keepIn_filt l0) (nsIn_filt a1) (filt_keep (by rfl) l1) (codeIn_filt c1) (keepIn_filt l1) (nsIn_filt a2) (filt_keep (by rfl) l2) (codeIn_filt c2) (keepIn_filt l2) (nsIn_filt a3) (filt_keep (by rfl) l3) (codeIn_filt c3) (keepIn_filt l3) (nsIn_filt a4) (filt_keep (by rfl) l4) (codeIn_filt c4) (keepIn_filt l4) (nsIn_filt a5) (filt_keep (by rfl) l5) (codeIn_filt c5) (keepIn_filt l5) (nsIn_filt a6) (filt_keep (by rfl) l6) (codeIn_filt c6) (keepIn_filt l6) (nsIn_filt a7) (filt_keep (by rfl) l7) (codeIn_filt c7) (keepIn_filt l7) (nsIn_filt a8) (filt_keep (by rfl) l8) (codeIn_filt c8) (keepIn_filt l8) (nsIn_filt a9) (filt_keep (by rfl) l9) (codeIn_filt c9) (keepIn_filt l9) (nsIn_filt a10) (filt_keep (by rfl) l10) (codeIn_filt c10) (keepIn_filt l10) (nsIn_filt a11) (filt_keep (by rfl) l11) (codeIn_filt c11) (keepIn_filt l11) (nsIn_filt a12) (filt_keep (by rfl) l12) (codeIn_filt c12) (keepIn_filt l12) (nsIn_filt a13) (filt_keep (by rfl) l13) (codeIn_filt c13) (keepIn_filt l13) (nsIn_filt a14) (filt_keep (by rfl) l14) (codeIn_filt c14) (keepIn_filt l14) (nsIn_filt a15) (filt_keep (by rfl) l15) (codeIn_filt c15) (keepIn_filt l15) (nsIn_filt a16) (filt_keep (by rfl) l16) (codeIn_filt c16) (keepIn_filt l16) (nsIn_filt a17) (filt_keep (by rfl) l17) (codeIn_filt c17) (keepIn_filt l17) (nsIn_filt a18) (filt_keep (by rfl) l18) (codeIn_filt c18) (keepIn_filt l18) (nsIn_filt a19) (filt_keep (by rfl) l19) (codeIn_filt c19) (keepIn_filt l19) (nsIn_filt a20) (filt_keep (by rfl) l20) (codeIn_filt c20) (keepIn_filt l20) (nsIn_filt a21) (filt_keep (by rfl) l21) (codeIn_filt c21) (keepIn_filt l21) (nsIn_filt a22) (filt_keep (by rfl) l22) (codeIn_filt c22) (keepIn_filt l22) (nsIn_filt a23) (filt_keep (by rfl) l23) (codeIn_filt c23) (keepIn_filt l23) (nsIn_filt a24) (filt_keep (by rfl) l24) (codeIn_filt c24) (keepIn_filt l24) (nsIn_filt a25) (filt_keep (by rfl) l25) (codeIn_filt c25) (keepIn_filt l25) (nsIn_filt a26) (filt_keep (by rfl) l26) (codeIn_filt c26) (keepIn_filt l26) (NoTK.filt K) (nsIn_filt z_all) (nsIn_filt z_any) (nsIn_filt z_bool) (nsIn_filt z_enumerate) (nsIn_filt z_int) (nsIn_filt z_isinstance) (nsIn_filt z_len) (nsIn_filt z_max) (nsIn_filt z_min) (nsIn_filt z_range) (nsIn_filt z_set) (nsIn_filt z_str) (nsIn_filt z_sum) (nsIn_filt z_tuple) (nsIn_filt z_zip)  
end G_k59
open PySem PySem.W PyProof.Rows
set_option maxHeartbeats 0 in
theorem PySem.Challenge.cw_windowfloor_k59_whole_one_of_both_holds : PySem.Challenge.rw_windowfloor_k59_whole_one_of_both.Holds := by
  w_on; o_law; k_head; (case hw => w_witness2)
  k_fill
  refine L3.walk_ofE (l := PySem.Challenge.rw_windowfloor_k59_whole_one_of_both) (n := 63) (k := 6) (x := "_law_script") (CX := fun _ => L2.CX0) (sp := fun w => fun vs H Q _ => L3.lowC _ G_k59.sp_law vs H Q) rfl (by decide) rfl ⟨rfl, by decide, by decide⟩ (fun w h Y => PySem.W.kIn_of Y) (fun w => by first | kernel_rfl | rfl | with_unfolding_all rfl) ?F (fun _ _ a ns hl _ hS => L3.law_in hl hS fun _ => rfl) (fun _ _ _ _ _ h => h)
  case F =>
    intro w mg fa h KX G hmg
    refine' G_k59.all_mkE KX G hmg ?a0 ?l0 ?c0 ?a1 ?l1 ?c1 ?a2 ?l2 ?c2 ?a3 ?l3 ?c3 ?a4 ?l4 ?c4 ?a5 ?l5 ?c5 ?a6 ?l6 ?c6 ?a7 ?l7 ?c7 ?a8 ?l8 ?c8 ?a9 ?l9 ?c9 ?a10 ?l10 ?c10 ?a11 ?l11 ?c11 ?a12 ?l12 ?c12 ?a13 ?l13 ?c13 ?a14 ?l14 ?c14 ?a15 ?l15 ?c15 ?a16 ?l16 ?c16 ?a17 ?l17 ?c17 ?a18 ?l18 ?c18 ?a19 ?l19 ?c19 ?a20 ?l20 ?c20 ?a21 ?l21 ?c21 ?a22 ?l22 ?c22 ?a23 ?l23 ?c23 ?a24 ?l24 ?c24 ?a25 ?l25 ?c25 ?a26 ?l26 ?c26 ?z_all ?z_any ?z_bool ?z_enumerate ?z_int ?z_isinstance ?z_len ?z_max ?z_min ?z_range ?z_set ?z_str ?z_sum ?z_tuple ?z_zip
    (case a0 => k_is); (case l0 => k_is); (case c0 => k_is); (case a1 => k_is); (case l1 => k_is); (case c1 => k_is); (case a2 => k_is); (case l2 => k_is); (case c2 => k_is); (case a3 => k_is); (case l3 => k_is); (case c3 => k_is); (case a4 => k_is); (case l4 => k_is); (case c4 => k_is); (case a5 => k_is); (case l5 => k_is); (case c5 => k_is); (case a6 => k_is); (case l6 => k_is); (case c6 => k_is); (case a7 => k_is); (case l7 => k_is); (case c7 => k_is); (case a8 => k_is); (case l8 => k_is); (case c8 => k_is); (case a9 => k_is); (case l9 => k_is); (case c9 => k_is); (case a10 => k_is); (case l10 => k_is); (case c10 => k_is); (case a11 => k_is); (case l11 => k_is); (case c11 => k_is); (case a12 => k_is); (case l12 => k_is); (case c12 => k_is); (case a13 => k_is); (case l13 => k_is); (case c13 => k_is); (case a14 => k_is); (case l14 => k_is); (case c14 => k_is); (case a15 => k_is); (case l15 => k_is); (case c15 => k_is); (case a16 => k_is); (case l16 => k_is); (case c16 => k_is); (case a17 => k_is); (case l17 => k_is); (case c17 => k_is); (case a18 => k_is); (case l18 => k_is); (case c18 => k_is); (case a19 => k_is); (case l19 => k_is); (case c19 => k_is); (case a20 => k_is); (case l20 => k_is); (case c20 => k_is); (case a21 => k_is); (case l21 => k_is); (case c21 => k_is); (case a22 => k_is); (case l22 => k_is); (case c22 => k_is); (case a23 => k_is); (case l23 => k_is); (case c23 => k_is); (case a24 => k_is); (case l24 => k_is); (case c24 => k_is); (case a25 => k_is); (case l25 => k_is); (case c25 => k_is); (case a26 => k_is); (case l26 => k_is); (case c26 => k_is); (case z_all => k_is); (case z_any => k_is); (case z_bool => k_is); (case z_enumerate => k_is); (case z_int => k_is); (case z_isinstance => k_is); (case z_len => k_is); (case z_max => k_is); (case z_min => k_is); (case z_range => k_is); (case z_set => k_is); (case z_str => k_is); (case z_sum => k_is); (case z_tuple => k_is); (case z_zip => k_is)
