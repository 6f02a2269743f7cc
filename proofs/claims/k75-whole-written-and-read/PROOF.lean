import PyProof.Rows.All
import Wide.All
import OpenK.AllK
import Wide.FinOn
import HandS.ForMost
import HandS.Wide
import HandS.Deep
import HandS.IsInst
import HandS.TupAny
import HandS.TupMul
import HandS.Zip
import HandS.Rev
import HandS.RevRange
import HandS.Style
import HandS.Conv
import HandS.Flow
import HandS.SortInts
import HandS.ExcIs
import HandS.ExcValue
import HandS.ExcCtx
import HandS.HotCalls
import KE.KTupSum
import KE.SortData
import KE.DataCmp
import HandS.TupSets
import HandS.RevTup
import KE.GoesMore
import KE.GoesEnum
import PyProof.ListIndexNeg
import KE.DataMinMax
import KE.KIndexOf
import HandS.More
import KE.KDictPairs
import KE.SortCalls
import HandS.TupLen
import HandS.WordsExc
import PyProof.ExcBaseAll.ValueError
import HandS.Text
import HandS.Replace
import KE.GoesZip
import HandS.ReplaceDef
import HandS.ReplaceLit
import HandS.ReplaceList
import PySem.Challenge.RW_windowfloor_k75_whole_written_and_read
set_option Elab.async false
set_option linter.all false
set_option maxRecDepth 100000
set_option maxHeartbeats 4000000
/-! A layer over L2 (HandS): values as trees, a store of own lists and dicts; readings without addresses. -/
namespace L3
open PySem PySem.Spec PyProof.Rows L2

/-! ### data, dicts among them: HandS's own look (L2.Dp) with dicts of the kept heap besides -/
def datK : Key → PyData
  | .inl i => .int i
  | .inr x => .str x
mutual
inductive Dp (F : PySem.W.Frag) (G : Hp) : V → PyData → Prop
  | non : Dp F G .non .none
  | bl (c : Bool) : Dp F G (.bl c) (.bool c)
  | int (n : Int) : Dp F G (.int n) (.int n)
  | str (y : Str) : Dp F G (.str y) (.str y)
  | lst {l : Addr} {vs : List V} {es : List PyData} : SqL F G l vs → DpAll F G vs es → Dp F G (.ref l) (.list es)
  | tup {l : Addr} {vs : List V} {es : List PyData} : SqT F G l vs → DpAll F G vs es → Dp F G (.ref l) (.tuple es)
  | dct {l : Addr} {kxs : List (Key × V)} {kvs : List (PyData × PyData)} : G l = some (.dK kxs) → DpKv F G kxs kvs → Dp F G (.ref l) (.dict kvs)
inductive DpAll (F : PySem.W.Frag) (G : Hp) : List V → List PyData → Prop
  | nil : DpAll F G [] []
  | cons {v : V} {vs : List V} {e : PyData} {es : List PyData} : Dp F G v e → DpAll F G vs es → DpAll F G (v :: vs) (e :: es)
inductive DpKv (F : PySem.W.Frag) (G : Hp) : List (Key × V) → List (PyData × PyData) → Prop
  | nil : DpKv F G [] []
  | cons {k : Key} {v : V} {e : PyData} {kxs : List (Key × V)} {kvs : List (PyData × PyData)} : Dp F G v e → DpKv F G kxs kvs → DpKv F G ((k, v) :: kxs) ((datK k, e) :: kvs)
end
mutual
theorem Dp.two {F : PySem.W.Frag} {G : Hp} : ∀ (e : PyData) (v : V), e.hasDict = false → Dp F G v e → L2.Dp F G v e
  | .none, _, _, h => by cases h; exact .non
  | .bool _, _, _, h => by cases h; exact .bl _
  | .int _, _, _, h => by cases h; exact .int _
  | .str _, _, _, h => by cases h; exact .str _
  | .list es, _, n, h => by
    simp only [PyData.hasDict] at n
    cases h with
    | lst hs ha => exact .lst hs (DpAll.two es _ n ha)
  | .tuple es, _, n, h => by
    simp only [PyData.hasDict] at n
    cases h with
    | tup hs ha => exact .tup hs (DpAll.two es _ n ha)
  | .dict _, _, n, _ => by simp [PyData.hasDict] at n
theorem DpAll.two {F : PySem.W.Frag} {G : Hp} : ∀ (es : List PyData) (vs : List V), PyData.hasDictAll es = false → DpAll F G vs es → L2.DpAll F G vs es
  | [], _, _, h => by cases h; exact .nil
  | e :: es, _, n, h => by
    simp only [PyData.hasDictAll, Bool.or_eq_false_iff] at n
    cases h with
    | cons h1 h2 => exact .cons (Dp.two e _ n.1 h1) (DpAll.two es _ n.2 h2)
end
theorem Dp.sh {F : PySem.W.Frag} {G : Hp} {e : PyData} {v : V} (h : Dp F G v e) (n : SeqAt.shaped e = true) : L2.Dp F G v e := Dp.two e v (PyData.hasDict_of_canLay e (SeqAt.canLay_of_shaped n)) h
section
variable {X : Cx} {pins : List (Addr × Obj)} {σ : L2.St} {G : Hp} {s : Shared}
theorem key_reads {k : Key} {v : Value} {h : Heap} (e : keyIs k v = true) : Reads h v (datK k) [] := by
  rcases keyIs_shape e with ⟨i, t, rfl, rfl⟩ | ⟨x, t, rfl, rfl⟩
  · exact Reads.int _ _
  · exact Reads.str _ _
mutual
theorem Dp.reads (J : L2.Inv X pins σ G s) : ∀ (e : PyData) (v : V) (z : Value), Dp X.K G v e → RelV v z → ∃ ks, Reads s.heap z e ks
  | .none, _, _, h, r => by cases h; cases r; exact ⟨_, .none⟩
  | .bool c, _, _, h, r => by cases h; cases r; exact ⟨_, .bool c⟩
  | .int n, _, _, h, r => by cases h; obtain ⟨q, rfl⟩ := r; exact ⟨_, .int n q⟩
  | .str y, _, _, h, r => by cases h; obtain ⟨q, rfl⟩ := r; exact ⟨_, .str y q⟩
  | .list es, _, _, .lst hs ha, r => by
    cases r
    obtain ⟨zs, rz, ⟨ob, m, g1, g2, _, g3⟩, _⟩ := J.list hs
    obtain ⟨ks, hk⟩ := Dp.readsAll J es _ zs ha rz
    exact ⟨_, .list g1 g2 g3 hk⟩
  | .tuple es, _, _, .tup hs ha, r => by
    cases r
    obtain ⟨zs, rz, ⟨ob, g1, g2, m, g3⟩, _⟩ := J.tuple hs
    obtain ⟨ks, hk⟩ := Dp.readsAll J es _ zs ha rz
    exact ⟨_, .tuple g1 g2 g3 hk⟩
  | .dict kvs, _, _, .dct hs ha, r => by
    cases r
    obtain ⟨_, _, vs, hv, ob, es, ep, g1, g2, g3, _, hp, _⟩ := J.hok _ _ hs
    obtain ⟨as, bs, h1, h2⟩ := Dp.readsKv J kvs _ vs es.toList ha hv hp
    exact ⟨_, .dict g1 g2.1 g3 h1 h2⟩
theorem Dp.readsAll (J : L2.Inv X pins σ G s) : ∀ (es : List PyData) (vs : List V) (zs : List Value), DpAll X.K G vs es → Vals vs zs → ∃ ks, ReadsAll s.heap zs es ks
  | [], _, _, .nil, .nil => ⟨_, .nil⟩
  | e :: es, _, _, .cons h1 h2, .cons r1 r2 => by
    obtain ⟨ks, g1⟩ := Dp.reads J e _ _ h1 r1
    obtain ⟨ls, g2⟩ := Dp.readsAll J es _ _ h2 r2
    exact ⟨_, .cons g1 g2⟩
theorem Dp.readsKv (J : L2.Inv X pins σ G s) : ∀ (kvs : List (PyData × PyData)) (kxs : List (Key × V)) (vs : List (Key × Value)) (es : List DictEntry), DpKv X.K G kxs kvs → KV kxs vs → Pairs (mixKind X.prog X.w) es vs →
    ∃ as bs, ReadsAll s.heap (es.map (·.key)) (kvs.map (·.1)) as ∧ ReadsAll s.heap (es.map (·.val)) (kvs.map (·.2)) bs
  | [], _, _, _, h, r, p => by
    cases h
    cases r
    cases p
    exact ⟨_, _, .nil, .nil⟩
  | (k, d) :: kvs, _, _, _, h, r, p => by
    cases h with
    | cons h1 h2 =>
      cases r with
      | cons r1 r2 =>
        cases p with
        | cons p1 p2 p3 =>
          obtain ⟨e1, r1⟩ := r1
          obtain ⟨as, q1⟩ := Dp.reads J d _ _ h1 r1
          obtain ⟨bs, cs, q2, q3⟩ := Dp.readsKv J kvs _ _ _ h2 r2 p3
          rw [← e1] at p1
          rw [← p2] at q1
          exact ⟨_, _, .cons (key_reads p1) q2, .cons q1 q3⟩
end
end
/-! ### data, stores -/
inductive D where
  | p (d : PyData)
  | loc (n : Nat)
  | exc (c : Str) (o : Option Addr := none)
inductive O3 where
  | lst (ds : List PyData)
  | dic (kvs : List (List Key × PyData))
  | dik (kvs : List (Key × D))
  | lls (ds : List D)
  | dif (od : Obj) (kxs : List (List Key × V)) (kvs : List (List Key × PyData))
  | dkf (od : Obj) (kxs : List (Key × V)) (kvs : List (Key × D))
structure W3 where
  al : List Addr
  h : Hp
  pn : List (Addr × HO)
abbrev E3 := List (Option D)
abbrev S3 := List (Option O3)
def at3 : E3 → Nat → Option D
  | [], _ => none
  | x :: _, 0 => x
  | _ :: r, n + 1 => at3 r n
def set3 : E3 → Nat → D → E3
  | [], _, _ => []
  | _ :: r, 0, d => some d :: r
  | x :: r, n + 1, d => x :: set3 r n d
theorem at3_get : ∀ (env : E3) (i : Nat), at3 env i = (env[i]?).join
  | [], _ => rfl
  | x :: _, 0 => rfl
  | _ :: r, n + 1 => by
    rw [List.getElem?_cons_succ]
    exact at3_get r n
theorem set3_length : ∀ (env : E3) (i : Nat) (d : D), (set3 env i d).length = env.length
  | [], _, _ => rfl
  | _ :: _, 0, _ => rfl
  | _ :: r, n + 1, d => congrArg (· + 1) (set3_length r n d)
theorem at3_set : ∀ (env : E3) (i j : Nat) (d : D), at3 (set3 env i d) j = if j = i ∧ i < env.length then some d else at3 env j
  | [], i, j, d => by simp [set3, at3]
  | x :: r, 0, 0, d => by simp [set3, at3]
  | x :: r, 0, j + 1, d => by simp [set3, at3]
  | x :: r, i + 1, 0, d => by simp [set3, at3]
  | x :: r, i + 1, j + 1, d => by
    show at3 (set3 r i d) j = _
    rw [at3_set r i j d]
    simp only [List.length_cons, Nat.add_right_cancel_iff, Nat.add_lt_add_iff_right]
    rfl

/-! ### what a value stands for -/
section
variable (K : PySem.W.Frag)
/-- an error of the main module's class c -/
def RepX (h : Hp) (v : V) (c : Str) (o : Option Addr) : Prop := ∃ (a C : Addr) (φ : Heap → Prop), v = .ref a ∧ PySem.W.nsIn K mainGlobals c = some (some (.ref C)) ∧ h a = some (.ext φ) ∧
  (∀ g, φ g → ∃ oe vs, g.get? a = some oe ∧ L2N.Zn (.ref C) none oe ∧ oe.data = .fields vs) ∧ ∀ b, o = some b → b = a
def RepD (w : W3) (v : V) : D → Prop
  | .p d => Dp K w.h v d
  | .loc n => ∃ a, w.al[n]? = some a ∧ v = .ref a
  | .exc c o => RepX K w.h v c o
def under (n : Nat) : D → Prop
  | .loc m => m < n
  | _ => True
def RepDs (w : W3) : List V → List D → Prop
  | [], [] => True
  | v :: vs, d :: ds => RepD K w v d ∧ RepDs w vs ds
  | _, _ => False
def RepO (w : W3) (n : Nat) (u : HO) : O3 → Prop
  | .lst ds => ∃ xs, u = .lst xs ∧ DpAll K w.h xs ds ∧ ds.length ≤ sizeLine
  | .dic kvs => ∃ kxs, u = .dT kxs ∧ Paired (fun (p : List Key × V) (q : List Key × PyData) => p.1 = q.1 ∧ Dp K w.h p.2 q.2) kxs kvs
  | .dik kvs => ∃ kxs, u = .dK kxs ∧ Paired (fun (p : Key × V) (q : Key × D) => p.1 = q.1 ∧ RepD K w p.2 q.2 ∧ under n q.2) kxs kvs
  | .lls ds => ∃ xs, u = .lst xs ∧ Paired (fun (v : V) (d : D) => RepD K w v d ∧ under n d) xs ds ∧ ds.length ≤ sizeLine
  | .dif od kxs kvs => u = .frz od (.dT kxs) ∧ Paired (fun (p : List Key × V) (q : List Key × PyData) => p.1 = q.1 ∧ Dp K w.h p.2 q.2) kxs kvs
  | .dkf od kxs kvs => u = .frz od (.dK kxs) ∧ Paired (fun (p : Key × V) (q : Key × D) => p.1 = q.1 ∧ RepD K w p.2 q.2 ∧ under n q.2) kxs kvs
def SzO : HO → Prop
  | .lst xs => xs.length ≤ sizeLine
  | .tup xs => xs.length ≤ sizeLine
  | .frz _ (.lst xs) => xs.length ≤ sizeLine
  | .frz _ (.tup _) => False
  | .frz _ _ => False
  | _ => True
structure Ex0 (w w' : W3) : Prop where
  al : ∃ t, w'.al = w.al ++ t
  h : Same w.h w'.h
structure Ex3 (w w' : W3) : Prop extends Ex0 w w' where
  pn : w'.pn = w.pn
def NoTupO : HO → Prop
  | .tup _ => False
  | _ => True
/-- what stands apart: each once, no tuples -/
def PnOk (pn : List (Addr × HO)) : Prop := (pn.map (·.1)).Nodup ∧ ∀ p ∈ pn, NoTupO p.2
theorem PnOk.nil : PnOk [] := ⟨List.nodup_nil, fun _ h => nomatch h⟩
structure Rel3 (w : W3) (H : Hp) (S : List (Option O3)) : Prop where
  sub : Same w.h H
  sz : ∀ a u, w.h a = some u → SzO u
  len : w.al.length = S.length
  live : ∀ (n : Nat) (a : Addr) (o : O3), w.al[n]? = some a → S[n]? = some (some o) → w.h a = none ∧ ∃ u, H a = some u ∧ RepO K w n u o
  dead : ∀ (n : Nat) (a : Addr), w.al[n]? = some a → S[n]? = some none → ∃ u, w.h a = some u
  nd : w.al.Nodup
  pin : ∀ (a : Addr) (u : HO), (a, u) ∈ w.pn → H a = some u ∧ w.h a = none ∧ a ∉ w.al
  pnd : PnOk w.pn
def EnvR (w : W3) (σ : L2.St) (env : E3) : Prop := σ.length = env.length ∧ ∀ i d, at3 env i = some d → ∃ v, σ[i]? = some (some v) ∧ RepD K w v d
end

theorem Same.sqT {K : PySem.W.Frag} {H H' : Hp} {a : Addr} {xs : List V} (e : Same H H') (h : SqT K H a xs) : SqT K H' a xs := by
  rcases h with (h | ⟨o, h⟩) | h
  · exact .inl (.inl (e _ _ h))
  · exact .inl (.inr ⟨o, e _ _ h⟩)
  · exact .inr h
mutual
theorem dp_mono {K : PySem.W.Frag} {H H' : Hp} (e : Same H H') : ∀ (d : PyData) (v : V), Dp K H v d → Dp K H' v d
  | .none, _, h => by cases h; exact .non
  | .bool b, _, h => by cases h; exact .bl b
  | .int i, _, h => by cases h; exact .int i
  | .str x, _, h => by cases h; exact .str x
  | .list ds, _, h => by
    cases h with
    | lst hs ha => exact .lst (L2.Same.seq e hs) (dpAll_mono e ds _ ha)
  | .tuple ds, _, h => by
    cases h with
    | tup hs ha => exact .tup (Same.sqT e hs) (dpAll_mono e ds _ ha)
  | .dict kvs, _, h => by
    cases h with
    | dct hs ha => exact .dct (e _ _ hs) (dpKv_mono e kvs _ ha)
theorem dpAll_mono {K : PySem.W.Frag} {H H' : Hp} (e : Same H H') : ∀ (ds : List PyData) (vs : List V), DpAll K H vs ds → DpAll K H' vs ds
  | [], _, h => by cases h; exact .nil
  | d :: ds, _, h => by
    cases h with
    | cons h1 h2 => exact .cons (dp_mono e d _ h1) (dpAll_mono e ds _ h2)
theorem dpKv_mono {K : PySem.W.Frag} {H H' : Hp} (e : Same H H') : ∀ (kvs : List (PyData × PyData)) (kxs : List (Key × V)), DpKv K H kxs kvs → DpKv K H' kxs kvs
  | [], _, h => by cases h; exact .nil
  | (k, d) :: kvs, _, h => by
    cases h with
    | cons h1 h2 => exact .cons (dp_mono e d _ h1) (dpKv_mono e kvs _ h2)
end
section
variable {K : PySem.W.Frag} {w w' w'' : W3} {H : Hp} {S : S3} {σ : L2.St} {env : E3} {v : V} {d : D}
theorem DpAll.length : ∀ {vs : List V} {ds : List PyData} {h : Hp}, DpAll K h vs ds → vs.length = ds.length
  | _, _, _, .nil => rfl
  | _, _, _, .cons _ t => congrArg (· + 1) (DpAll.length t)
theorem DpAll.get : ∀ {vs : List V} {ds : List PyData} {h : Hp} {i : Nat} {x : PyData}, DpAll K h vs ds → ds[i]? = some x → ∃ v, vs[i]? = some v ∧ Dp K h v x
  | _, _, _, _, _, .nil, e => by simp at e
  | _, _, _, 0, _, .cons r _, e => by
    simp at e
    subst e
    exact ⟨_, rfl, r⟩
  | _, _, _, i + 1, x, .cons _ t, e => by
    obtain ⟨v, h1, h2⟩ := DpAll.get (i := i) (x := x) t (by simpa using e)
    exact ⟨v, by simpa using h1, h2⟩
theorem DpAll.getV : ∀ {vs : List V} {ds : List PyData} {h : Hp} {i : Nat} {v : V}, DpAll K h vs ds → vs[i]? = some v → ∃ x, ds[i]? = some x ∧ Dp K h v x
  | _, _, _, _, _, .nil, e => by simp at e
  | _, _, _, 0, _, .cons r _, e => by
    simp at e
    subst e
    exact ⟨_, rfl, r⟩
  | _, _, _, i + 1, v, .cons _ t, e => by
    obtain ⟨x, h1, h2⟩ := DpAll.getV (i := i) (v := v) t (by simpa using e)
    exact ⟨x, by simpa using h1, h2⟩
theorem DpAll.append : ∀ {vs us : List V} {ds es : List PyData} {h : Hp}, DpAll K h vs ds → DpAll K h us es → DpAll K h (vs ++ us) (ds ++ es)
  | _, _, _, _, _, .nil, s => s
  | _, _, _, _, _, .cons r t, s => .cons r (DpAll.append t s)
theorem DpAll.take : ∀ {vs : List V} {ds : List PyData} {h : Hp} (n : Nat), DpAll K h vs ds → DpAll K h (vs.take n) (ds.take n)
  | _, _, _, 0, _ => .nil
  | _, _, _, _ + 1, .nil => .nil
  | _, _, _, n + 1, .cons r t => .cons r (DpAll.take n t)
theorem DpAll.drop : ∀ {vs : List V} {ds : List PyData} {h : Hp} (n : Nat), DpAll K h vs ds → DpAll K h (vs.drop n) (ds.drop n)
  | _, _, _, 0, r => r
  | _, _, _, _ + 1, .nil => .nil
  | _, _, _, n + 1, .cons _ t => DpAll.drop n t
theorem DpAll.set {x : PyData} {v : V} {h : Hp} (r : Dp K h v x) : ∀ {vs : List V} {ds : List PyData} (i : Nat), DpAll K h vs ds → DpAll K h (vs.set i v) (ds.set i x)
  | _, _, _, .nil => .nil
  | _, _, 0, .cons _ t => .cons r t
  | _, _, i + 1, .cons q t => .cons q (DpAll.set r i t)
theorem DpAll.eraseIdx {h : Hp} : ∀ {vs : List V} {ds : List PyData} (i : Nat), DpAll K h vs ds → DpAll K h (vs.eraseIdx i) (ds.eraseIdx i)
  | _, _, _, .nil => .nil
  | _, _, 0, .cons _ t => t
  | _, _, i + 1, .cons q t => .cons q (DpAll.eraseIdx i t)
theorem DpAll.replicate {x : PyData} {v : V} {h : Hp} (r : Dp K h v x) : ∀ n : Nat, DpAll K h (List.replicate n v) (List.replicate n x)
  | 0 => .nil
  | n + 1 => .cons r (DpAll.replicate r n)
theorem DpAll.flatten {h : Hp} {vs : List V} {ds : List PyData} (r : DpAll K h vs ds) : ∀ n : Nat, DpAll K h (List.replicate n vs).flatten (List.replicate n ds).flatten
  | 0 => .nil
  | n + 1 => by
    rw [List.replicate_succ, List.replicate_succ, List.flatten_cons, List.flatten_cons]
    exact DpAll.append r (DpAll.flatten r n)
theorem DpAll.reverse {h : Hp} : ∀ {vs : List V} {ds : List PyData}, DpAll K h vs ds → DpAll K h vs.reverse ds.reverse
  | _, _, .nil => .nil
  | _, _, .cons r t => by
    rw [List.reverse_cons, List.reverse_cons]
    exact DpAll.append (DpAll.reverse t) (.cons r .nil)

theorem Ex3.refl (w : W3) : Ex3 w w := ⟨⟨⟨[], by simp⟩, Same.refl _⟩, rfl⟩
theorem Ex0.trans (a : Ex0 w w') (b : Ex0 w' w'') : Ex0 w w'' := by
  obtain ⟨t, h1⟩ := a.al
  obtain ⟨u, h2⟩ := b.al
  exact ⟨⟨t ++ u, by rw [h2, h1, List.append_assoc]⟩, a.h.trans b.h⟩
theorem Ex3.trans (a : Ex3 w w') (b : Ex3 w' w'') : Ex3 w w'' := ⟨a.toEx0.trans b.toEx0, b.pn.trans a.pn⟩
theorem Ex0.get (e : Ex0 w w') {n : Nat} {a : Addr} (h : w.al[n]? = some a) : w'.al[n]? = some a := by
  obtain ⟨t, h1⟩ := e.al
  rw [h1, List.getElem?_append_left (List.getElem?_eq_some_iff.mp h).1]
  exact h
theorem RepX.mono {h h' : Hp} {c : Str} {o : Option Addr} (e : Same h h') (x : RepX K h v c o) : RepX K h' v c o := by
  obtain ⟨a, C, φ, h1, h2, h3, h4, h5⟩ := x
  exact ⟨a, C, φ, h1, h2, e _ _ h3, h4, h5⟩
theorem RepD.mono0 (e : Ex0 w w') (h : RepD K w v d) : RepD K w' v d := by
  cases d with
  | exc c => exact RepX.mono e.h h
  | p d => exact dp_mono e.h d v h
  | loc n =>
    obtain ⟨a, h1, h2⟩ := h
    exact ⟨a, e.get h1, h2⟩
theorem RepD.mono (e : Ex3 w w') (h : RepD K w v d) : RepD K w' v d := h.mono0 e.toEx0
theorem RepDs.mono (e : Ex3 w w') : ∀ {vs : List V} {ds : List D}, RepDs K w vs ds → RepDs K w' vs ds
  | [], [], _ => trivial
  | _ :: _, _ :: _, h => ⟨h.1.mono e, RepDs.mono e h.2⟩
  | [], _ :: _, h => h.elim
  | _ :: _, [], h => h.elim
theorem RepDs.length : ∀ {vs : List V} {ds : List D}, RepDs K w vs ds → vs.length = ds.length
  | [], [], _ => rfl
  | _ :: _, _ :: _, h => congrArg (· + 1) (RepDs.length h.2)
  | [], _ :: _, h => h.elim
  | _ :: _, [], h => h.elim
theorem EnvR.mono0 (e : Ex0 w w') (h : EnvR K w σ env) : EnvR K w' σ env := ⟨h.1, fun i d q => by
  obtain ⟨v, h1, h2⟩ := h.2 i d q
  exact ⟨v, h1, h2.mono0 e⟩⟩
theorem EnvR.mono (e : Ex3 w w') (h : EnvR K w σ env) : EnvR K w' σ env := h.mono0 e.toEx0
theorem EnvR.set (h : EnvR K w σ env) (i : Nat) (r : RepD K w v d) : EnvR K w (σ.set i (some v)) (set3 env i d) := by
  refine ⟨by rw [List.length_set, set3_length]; exact h.1, fun j e q => ?_⟩
  rw [at3_set] at q
  by_cases hj : j = i ∧ i < env.length
  · rw [if_pos hj] at q
    cases q
    obtain ⟨rfl, hi⟩ := hj
    exact ⟨v, by rw [List.getElem?_set_self (by rw [h.1]; exact hi)], r⟩
  · rw [if_neg hj] at q
    obtain ⟨u, h1, h2⟩ := h.2 j e q
    refine ⟨u, ?_, h2⟩
    by_cases e : i = j
    · subst e
      have : i < σ.length := (List.getElem?_eq_some_iff.mp h1).1
      exact absurd ⟨rfl, by rw [← h.1]; exact this⟩ hj
    · rw [List.getElem?_set_ne e]
      exact h1
theorem Rel3.szL (r : Rel3 K w H S) {a : Addr} {xs : List V} (h : SqL K w.h a xs) : xs.length ≤ sizeLine := by
  rcases h with (h | ⟨o, h⟩) | ⟨_, its, _, _, _, _, _, hz, rv⟩
  · exact r.sz a _ h
  · exact r.sz a _ h
  · have := Vals.length rv
    rw [this]
    simpa using hz
theorem Rel3.szT (r : Rel3 K w H S) {a : Addr} {xs : List V} (h : SqT K w.h a xs) : xs.length ≤ sizeLine := by
  rcases h with (h | ⟨o, h⟩) | ⟨_, its, _, _, _, _, hz, rv⟩
  · exact r.sz a _ h
  · exact (r.sz a _ h).elim
  · have := Vals.length rv
    rw [this]
    simpa using hz
theorem RepO.mono {n : Nat} {u : HO} {o : O3} (e : Ex0 w w') (h : RepO K w n u o) : RepO K w' n u o := by
  cases o with
  | lst ds =>
    obtain ⟨xs, h4, h5, h6⟩ := h
    exact ⟨xs, h4, dpAll_mono e.h ds xs h5, h6⟩
  | dic kvs =>
    obtain ⟨kxs, h4, h5⟩ := h
    exact ⟨kxs, h4, Paired.mapP h5 fun p q z => ⟨z.1, dp_mono e.h _ _ z.2⟩⟩
  | dik kvs =>
    obtain ⟨kxs, h4, h5⟩ := h
    exact ⟨kxs, h4, Paired.mapP h5 fun p q z => ⟨z.1, z.2.1.mono0 e, z.2.2⟩⟩
  | lls ds =>
    obtain ⟨xs, h4, h5, h6⟩ := h
    exact ⟨xs, h4, Paired.mapP h5 fun v d z => ⟨z.1.mono0 e, z.2⟩, h6⟩
  | dif od kxs kvs =>
    obtain ⟨h4, h5⟩ := h
    exact ⟨h4, Paired.mapP h5 fun p q z => ⟨z.1, dp_mono e.h _ _ z.2⟩⟩
  | dkf od kxs kvs =>
    obtain ⟨h4, h5⟩ := h
    exact ⟨h4, Paired.mapP h5 fun p q z => ⟨z.1, z.2.1.mono0 e, z.2.2⟩⟩
theorem Rel3.notal (r : Rel3 K w H S) {a : Addr} (hn : H a = none) : ∀ (n : Nat) (b : Addr), w.al[n]? = some b → b ≠ a := fun n b e z => by
  subst z
  have hw : w.h b = none := r.sub.free hn
  have hl : n < S.length := by rw [← r.len]; exact (List.getElem?_eq_some_iff.mp e).1
  cases q : S[n]? with
  | none => exact absurd hl (by rw [List.getElem?_eq_none_iff] at q; omega)
  | some o =>
    cases o with
    | none =>
      obtain ⟨u', h1⟩ := r.dead n b e q
      rw [hw] at h1
      cases h1
    | some o =>
      obtain ⟨_, u', h1, _⟩ := r.live n b o e q
      rw [hn] at h1
      cases h1
/-- a new object that will never change -/
theorem Rel3.frz (r : Rel3 K w H S) {a : Addr} {u : HO} (hn : H a = none) (hz : SzO u) : Rel3 K ⟨w.al, upd w.h a u, w.pn⟩ (upd H a u) S ∧ Ex3 w ⟨w.al, upd w.h a u, w.pn⟩ := by
  have hw : w.h a = none := r.sub.free hn
  have sm : Same w.h (upd w.h a u) := fun b o e => by
    rw [upd_ne (ne_of_none e hw)]
    exact e
  have nal := r.notal hn
  have ex : Ex3 w ⟨w.al, upd w.h a u, w.pn⟩ := ⟨⟨⟨[], by simp⟩, sm⟩, rfl⟩
  refine ⟨⟨fun b o e => ?_, fun b o e => ?_, r.len, fun n b o e q => ?_, fun n b e q => ?_, r.nd, fun b o hb => ?_, r.pnd⟩, ex⟩
  · show upd H a u b = _
    by_cases hb : b = a
    · subst hb
      have e' : upd w.h b u b = some o := e
      rw [upd_same] at e' ⊢
      exact e'
    · have e' : upd w.h a u b = some o := e
      rw [upd_ne hb] at e' ⊢
      exact r.sub b o e'
  · have e' : upd w.h a u b = some o := e
    by_cases hb : b = a
    · subst hb
      rw [upd_same] at e'
      cases e'
      exact hz
    · rw [upd_ne hb] at e'
      exact r.sz b o e'
  · obtain ⟨h1, x, h2, h3⟩ := r.live n b o e q
    have nb := nal n b e
    exact ⟨by show upd w.h a u b = none; rw [upd_ne nb]; exact h1, x, by rw [upd_ne nb]; exact h2, h3.mono ex.toEx0⟩
  · obtain ⟨x, h1⟩ := r.dead n b e q
    exact ⟨x, sm b x h1⟩
  · obtain ⟨h1, h2, h3⟩ := r.pin b o hb
    have nb : b ≠ a := fun z => by rw [z, hn] at h1; cases h1
    exact ⟨by rw [upd_ne nb]; exact h1, by show upd w.h a u b = none; rw [upd_ne nb]; exact h2, h3⟩
/-- a new object of the store -/
theorem Rel3.push (r : Rel3 K w H S) {a : Addr} {u : HO} {o : O3} (hn : H a = none) (hr : RepO K w S.length u o) : Rel3 K ⟨w.al ++ [a], w.h, w.pn⟩ (upd H a u) (S ++ [some o]) ∧ Ex3 w ⟨w.al ++ [a], w.h, w.pn⟩ := by
  have hw : w.h a = none := r.sub.free hn
  have nal := r.notal hn
  have ex : Ex3 w ⟨w.al ++ [a], w.h, w.pn⟩ := ⟨⟨⟨[a], rfl⟩, Same.refl _⟩, rfl⟩
  refine ⟨⟨fun b x e => ?_, r.sz, by simp [r.len], fun n b x e q => ?_, fun n b e q => ?_, ?_, fun b o hb => ?_, r.pnd⟩, ex⟩
  · have e' : w.h b = some x := e
    rw [upd_ne (ne_of_none e' hw)]
    exact r.sub b x e'
  · have e' : (w.al ++ [a])[n]? = some b := e
    by_cases hl : n < w.al.length
    · rw [List.getElem?_append_left hl] at e'
      rw [List.getElem?_append_left (by rw [← r.len]; exact hl)] at q
      obtain ⟨h1, y, h2, h3⟩ := r.live n b x e' q
      exact ⟨h1, y, by rw [upd_ne (nal n b e')]; exact h2, h3.mono ex.toEx0⟩
    · rw [List.getElem?_append_right (by omega)] at e'
      rw [List.getElem?_append_right (by rw [← r.len]; omega)] at q
      have hk : n - w.al.length = 0 := by
        have := (List.getElem?_eq_some_iff.mp e').1
        simp at this
        omega
      rw [hk] at e'
      rw [← r.len, hk] at q
      simp at e' q
      subst e' q
      have hnn : n = S.length := by rw [r.len] at hk hl; omega
      exact ⟨hw, u, upd_same, hnn ▸ hr.mono ex.toEx0⟩
  · have e' : (w.al ++ [a])[n]? = some b := e
    by_cases hl : n < w.al.length
    · rw [List.getElem?_append_left hl] at e'
      rw [List.getElem?_append_left (by rw [← r.len]; exact hl)] at q
      exact r.dead n b e' q
    · rw [List.getElem?_append_right (by rw [← r.len]; omega)] at q
      have hk : n - S.length = 0 := by
        have := (List.getElem?_eq_some_iff.mp q).1
        simp at this
        omega
      rw [hk] at q
      simp at q
  · rw [List.nodup_append]
    refine ⟨r.nd, by simp, fun x hx y hy => ?_⟩
    simp at hy
    subst hy
    obtain ⟨n, hn'⟩ := List.getElem?_of_mem hx
    exact nal n x hn'
  · obtain ⟨h1, h2, h3⟩ := r.pin b o hb
    have nb : b ≠ a := fun z => by rw [z, hn] at h1; cases h1
    exact ⟨by rw [upd_ne nb]; exact h1, h2, by simp only [List.mem_append, List.mem_singleton, not_or]; exact ⟨h3, nb⟩⟩
/-- an object of the store is changed -/
theorem Rel3.put (r : Rel3 K w H S) {n : Nat} {a : Addr} {u : HO} {o o' : O3} (ha : w.al[n]? = some a) (hs : S[n]? = some (some o)) (hr : RepO K w n u o') : Rel3 K w (upd H a u) (S.set n (some o')) := by
  obtain ⟨hw, _⟩ := r.live n a o ha hs
  have hlen : n < S.length := (List.getElem?_eq_some_iff.mp hs).1
  have other : ∀ m b, w.al[m]? = some b → m ≠ n → b ≠ a := fun m b e hm z => by
    subst z
    obtain ⟨h1, e1⟩ := List.getElem?_eq_some_iff.mp e
    obtain ⟨h2, e2⟩ := List.getElem?_eq_some_iff.mp ha
    exact hm ((List.getElem_inj r.nd).mp (e1.trans e2.symm))
  refine ⟨fun b x e => ?_, r.sz, by simp [r.len], fun m b x e q => ?_, fun m b e q => ?_, r.nd, fun b o hb => ?_, r.pnd⟩
  rotate_right
  · obtain ⟨h1, h2, h3⟩ := r.pin b o hb
    have nb : b ≠ a := fun z => h3 (by rw [z]; exact List.mem_of_getElem? ha)
    exact ⟨by rw [upd_ne nb]; exact h1, h2, h3⟩
  · rw [upd_ne (ne_of_none e hw)]
    exact r.sub b x e
  · by_cases hm : m = n
    · subst hm
      rw [List.getElem?_set_self hlen] at q
      have e1 : b = a := Option.some.inj (e.symm.trans ha)
      cases q
      subst e1
      exact ⟨hw, u, upd_same, hr⟩
    · rw [List.getElem?_set_ne (Ne.symm hm)] at q
      obtain ⟨h1, y, h2, h3⟩ := r.live m b x e q
      exact ⟨h1, y, by rw [upd_ne (other m b e hm)]; exact h2, h3⟩
  · by_cases hm : m = n
    · subst hm
      rw [List.getElem?_set_self hlen] at q
      cases q
    · rw [List.getElem?_set_ne (Ne.symm hm)] at q
      exact r.dead m b e q
/-- an object of the store is said to change no more -/
theorem Rel3.freeze (r : Rel3 K w H S) {n : Nat} {a : Addr} {ds : List PyData} (ha : w.al[n]? = some a) (hs : S[n]? = some (some (.lst ds))) :
    ∃ u, Rel3 K ⟨w.al, upd w.h a u, w.pn⟩ H (S.set n none) ∧ Ex3 w ⟨w.al, upd w.h a u, w.pn⟩ ∧ Dp K (upd w.h a u) (.ref a) (.list ds) := by
  obtain ⟨hw, u, hu, xs, rfl, hd, hz⟩ := r.live n a _ ha hs
  have hlen : n < S.length := (List.getElem?_eq_some_iff.mp hs).1
  have sm : Same w.h (upd w.h a (.lst xs)) := fun b o e => by
    rw [upd_ne (ne_of_none e hw)]
    exact e
  have ex : Ex3 w ⟨w.al, upd w.h a (.lst xs), w.pn⟩ := ⟨⟨⟨[], by simp⟩, sm⟩, rfl⟩
  have other : ∀ m b, w.al[m]? = some b → m ≠ n → b ≠ a := fun m b e hm z => by
    subst z
    obtain ⟨h1, e1⟩ := List.getElem?_eq_some_iff.mp e
    obtain ⟨h2, e2⟩ := List.getElem?_eq_some_iff.mp ha
    exact hm ((List.getElem_inj r.nd).mp (e1.trans e2.symm))
  refine ⟨.lst xs, ⟨fun b x e => ?_, fun b x e => ?_, by simp [r.len], fun m b x e q => ?_, fun m b e q => ?_, r.nd, fun b o hb => ?_, r.pnd⟩, ex, .lst (.inl (.inl upd_same)) (dpAll_mono sm ds xs hd)⟩
  · have e' : upd w.h a (.lst xs) b = some x := e
    by_cases hb : b = a
    · subst hb
      rw [upd_same] at e'
      cases e'
      exact hu
    · rw [upd_ne hb] at e'
      exact r.sub b x e'
  · have e' : upd w.h a (.lst xs) b = some x := e
    by_cases hb : b = a
    · subst hb
      rw [upd_same] at e'
      cases e'
      show xs.length ≤ sizeLine
      rw [DpAll.length hd]
      exact hz
    · rw [upd_ne hb] at e'
      exact r.sz b x e'
  · by_cases hm : m = n
    · subst hm
      rw [List.getElem?_set_self hlen] at q
      cases q
    · rw [List.getElem?_set_ne (Ne.symm hm)] at q
      obtain ⟨h1, y, h2, h3⟩ := r.live m b x e q
      exact ⟨by show upd w.h a (.lst xs) b = none; rw [upd_ne (other m b e hm)]; exact h1, y, h2, h3.mono ex.toEx0⟩
  · by_cases hm : m = n
    · subst hm
      have : b = a := Option.some.inj (e.symm.trans ha)
      subst this
      exact ⟨_, upd_same⟩
    · rw [List.getElem?_set_ne (Ne.symm hm)] at q
      obtain ⟨y, h1⟩ := r.dead m b e q
      exact ⟨y, sm b y h1⟩
  · obtain ⟨h1, h2, h3⟩ := r.pin b o hb
    have nb : b ≠ a := fun z => h3 (by rw [z]; exact List.mem_of_getElem? ha)
    exact ⟨h1, by show upd w.h a (.lst xs) b = none; rw [upd_ne nb]; exact h2, h3⟩
/-- the last objects of the store are forgotten -/
theorem Rel3.shrink (r : Rel3 K w H S) (L : Nat) : Rel3 K ⟨w.al.take L, w.h, w.pn⟩ H (S.take L) := by
  refine ⟨r.sub, r.sz, by simp [r.len], fun n a o e q => ?_, fun n a e q => ?_, r.nd.sublist (List.take_sublist _ _), fun b o hb => ?_, r.pnd⟩
  rotate_right
  · obtain ⟨h1, h2, h3⟩ := r.pin b o hb
    exact ⟨h1, h2, fun z => h3 (List.mem_of_mem_take z)⟩
  · have e' : (w.al.take L)[n]? = some a := e
    have hn : n < L := by
      have := (List.getElem?_eq_some_iff.mp e').1
      rw [List.length_take] at this
      omega
    rw [List.getElem?_take_of_lt hn] at e' q
    obtain ⟨h1, u, h2, h3⟩ := r.live n a o e' q
    refine ⟨h1, u, h2, ?_⟩
    cases o with
    | lst ds => exact h3
    | dic kvs => exact h3
    | dif od kxs kvs => exact h3
    | dik kvs =>
      obtain ⟨kxs, h4, h5⟩ := h3
      refine ⟨kxs, h4, Paired.mapP h5 fun p q z => ⟨z.1, ?_, z.2.2⟩⟩
      obtain ⟨_, z1, z2⟩ := z
      cases hq : q.2 with
      | p d => rw [hq] at z1; exact z1
      | exc c => rw [hq] at z1; exact z1
      | loc m =>
        rw [hq] at z1 z2
        obtain ⟨b, g1, g2⟩ := z1
        have z2' : m < n := z2
        exact ⟨b, by show (w.al.take L)[m]? = _; rw [List.getElem?_take_of_lt (by omega)]; exact g1, g2⟩
    | dkf od kxs kvs =>
      obtain ⟨h4, h5⟩ := h3
      refine ⟨h4, Paired.mapP h5 fun p q z => ⟨z.1, ?_, z.2.2⟩⟩
      obtain ⟨_, z1, z2⟩ := z
      cases hq : q.2 with
      | p d => rw [hq] at z1; exact z1
      | exc c => rw [hq] at z1; exact z1
      | loc m =>
        rw [hq] at z1 z2
        obtain ⟨b, g1, g2⟩ := z1
        have z2' : m < n := z2
        exact ⟨b, by show (w.al.take L)[m]? = _; rw [List.getElem?_take_of_lt (by omega)]; exact g1, g2⟩
    | lls ds =>
      obtain ⟨xs, h4, h5, h6⟩ := h3
      refine ⟨xs, h4, Paired.mapP h5 fun v d z => ⟨?_, z.2⟩, h6⟩
      obtain ⟨z1, z2⟩ := z
      cases d with
      | p d => exact z1
      | exc c => exact z1
      | loc m =>
        obtain ⟨b, g1, g2⟩ := z1
        have z2' : m < n := z2
        exact ⟨b, by show (w.al.take L)[m]? = _; rw [List.getElem?_take_of_lt (by omega)]; exact g1, g2⟩
  · have e' : (w.al.take L)[n]? = some a := e
    have hn : n < L := by
      have := (List.getElem?_eq_some_iff.mp e').1
      rw [List.length_take] at this
      omega
    rw [List.getElem?_take_of_lt hn] at e' q
    exact r.dead n a e' q
/-- a new object that stands apart, as it is -/
theorem Rel3.pinNew (r : Rel3 K w H S) {a : Addr} {u : HO} (hn : H a = none) (hu : NoTupO u := by trivial) : Rel3 K ⟨w.al, w.h, (a, u) :: w.pn⟩ (upd H a u) S := by
  have hw : w.h a = none := r.sub.free hn
  have nal := r.notal hn
  refine ⟨fun b x e => ?_, r.sz, r.len, fun n b x e q => ?_, r.dead, r.nd, fun b o hb => ?_, ?_⟩
  · rw [upd_ne (ne_of_none e hw)]
    exact r.sub b x e
  · obtain ⟨h1, y, h2, h3⟩ := r.live n b x e q
    exact ⟨h1, y, by rw [upd_ne (nal n b e)]; exact h2, h3.mono ⟨⟨[], by simp⟩, Same.refl _⟩⟩
  · rcases List.mem_cons.mp hb with e | hb
    · cases e
      refine ⟨upd_same, hw, fun z => ?_⟩
      obtain ⟨n, h⟩ := List.getElem?_of_mem z
      exact nal n _ h rfl
    · obtain ⟨h1, h2, h3⟩ := r.pin b o hb
      have nb : b ≠ a := fun z => by rw [z, hn] at h1; cases h1
      exact ⟨by rw [upd_ne nb]; exact h1, h2, h3⟩
  · refine ⟨?_, fun p hp => (List.mem_cons.mp hp).elim (fun e => by subst e; exact hu) (r.pnd.2 p)⟩
    show (a :: w.pn.map (·.1)).Nodup
    rw [List.nodup_cons]
    refine ⟨fun z => ?_, r.pnd.1⟩
    obtain ⟨p, hp, e⟩ := List.mem_map.mp z
    have := (r.pin p.1 p.2 hp).1
    rw [e, hn] at this
    cases this
/-- what stands apart is written -/
theorem Rel3.repin {al : List Addr} {h : Hp} {a : Addr} {u u' : HO} {pn : List (Addr × HO)} (r : Rel3 K ⟨al, h, (a, u) :: pn⟩ H S) (hu : NoTupO u' := by trivial) : Rel3 K ⟨al, h, (a, u') :: pn⟩ (upd H a u') S := by
  obtain ⟨h1, h2, h3⟩ := r.pin a u List.mem_cons_self
  have nd := List.nodup_cons.mp (show (a :: pn.map (·.1)).Nodup from r.pnd.1)
  refine ⟨fun b x e => ?_, r.sz, r.len, fun n b x e q => ?_, r.dead, r.nd, fun b o hb => ?_, ?_⟩
  · rw [upd_ne (ne_of_none e h2)]
    exact r.sub b x e
  · obtain ⟨g1, y, g2, g3⟩ := r.live n b x e q
    have nb : b ≠ a := fun z => h3 (by rw [← z]; exact List.mem_of_getElem? e)
    exact ⟨g1, y, by rw [upd_ne nb]; exact g2, g3.mono ⟨⟨[], by simp⟩, Same.refl _⟩⟩
  · rcases List.mem_cons.mp hb with e | hb
    · cases e
      exact ⟨upd_same, h2, h3⟩
    · obtain ⟨g1, g2, g3⟩ := r.pin b o (List.mem_cons_of_mem _ hb)
      have nb : b ≠ a := fun z => nd.1 (by rw [← z]; exact List.mem_map_of_mem (f := (·.1)) hb)
      exact ⟨by rw [upd_ne nb]; exact g1, g2, g3⟩
  · exact ⟨r.pnd.1, fun p hp => (List.mem_cons.mp hp).elim (fun e => by subst e; exact hu) fun z => r.pnd.2 p (List.mem_cons_of_mem _ z)⟩
/-- the heap without an address -/
def del (H : Hp) (a : Addr) : Hp := fun b => if b = a then none else H b
theorem Rel3.unpin {al : List Addr} {h : Hp} {a : Addr} {u : HO} {pn : List (Addr × HO)} (r : Rel3 K ⟨al, h, (a, u) :: pn⟩ H S) : Rel3 K ⟨al, h, pn⟩ (del H a) S ∧ del H a a = none ∧ upd (del H a) a u = H := by
  obtain ⟨h1, h2, h3⟩ := r.pin a u List.mem_cons_self
  have nd := List.nodup_cons.mp (show (a :: pn.map (·.1)).Nodup from r.pnd.1)
  have dn : ∀ b, b ≠ a → del H a b = H b := fun b hb => by unfold del; rw [if_neg hb]
  refine ⟨⟨fun b x e => ?_, r.sz, r.len, fun n b x e q => ?_, r.dead, r.nd, fun b o hb => ?_, ⟨nd.2, fun p hp => r.pnd.2 p (List.mem_cons_of_mem _ hp)⟩⟩, by unfold del; rw [if_pos rfl], ?_⟩
  · rw [dn b (ne_of_none e h2)]
    exact r.sub b x e
  · obtain ⟨g1, y, g2, g3⟩ := r.live n b x e q
    have nb : b ≠ a := fun z => h3 (by rw [← z]; exact List.mem_of_getElem? e)
    exact ⟨g1, y, by rw [dn b nb]; exact g2, g3.mono ⟨⟨[], by simp⟩, Same.refl _⟩⟩
  · obtain ⟨g1, g2, g3⟩ := r.pin b o (List.mem_cons_of_mem _ hb)
    have nb : b ≠ a := fun z => nd.1 (by rw [← z]; exact List.mem_map_of_mem (f := (·.1)) hb)
    exact ⟨by rw [dn b nb]; exact g1, g2, g3⟩
  · funext b
    by_cases hb : b = a
    · subst hb
      rw [upd_same, h1]
    · rw [upd_ne hb, dn b hb]
end
end L3

namespace L3
open PySem PySem.Spec PyProof.Rows L2
/-! ### readings over trees and a store -/
abbrev K3 := D → S3 → Prop
abbrev TE3 := E3 → S3 → K3 → Prop
abbrev TT3 := E3 → S3 → (Bool → S3 → Prop) → Prop
abbrev TA3 := E3 → S3 → (List D → S3 → Prop) → Prop
abbrev R3 := D → D → S3 → K3 → Prop
abbrev U3 := D → S3 → K3 → Prop
abbrev C3 := List D → S3 → K3 → Prop
structure N3 where
  nx : E3 → S3 → Prop
  rt : K3
  bk : E3 → S3 → Prop := fun _ _ => False
  ct : E3 → S3 → Prop := fun _ _ => False
abbrev TS3 := N3 → E3 → S3 → Prop
abbrev TG3 := D → E3 → S3 → (E3 → S3 → Prop) → Prop
abbrev TGs3 := List PyData → E3 → S3 → (E3 → S3 → Prop) → Prop
abbrev TI3 := E3 → S3 → (List PyData → (S3 → Prop) → S3 → Prop) → Prop

section
variable (K : PySem.W.Frag)
/-- what is wanted behind, by trees; by values -/
def EndE (w : W3) (Q : K3) (R : VK) : Prop := ∀ w' v d H' S', Ex3 w w' → Rel3 K w' H' S' → RepD K w' v d → Q d S' → R v H'
def EndT (w : W3) (Q : Bool → S3 → Prop) (R : Bool → Hp → Prop) : Prop := ∀ w' b H' S', Ex3 w w' → Rel3 K w' H' S' → Q b S' → R b H'
def EndA (w : W3) (Q : List D → S3 → Prop) (R : List V → Hp → Prop) : Prop := ∀ w' vs ds H' S', Ex3 w w' → Rel3 K w' H' S' → RepDs K w' vs ds → Q ds S' → R vs H'
def EndN (w : W3) (Q : E3 → S3 → Prop) (R : L2.St → Hp → Prop) : Prop := ∀ w' σ' H' env' S', Ex3 w w' → Rel3 K w' H' S' → EnvR K w' σ' env' → Q env' S' → R σ' H'
structure EndS (w : W3) (D3 : N3) (D2 : Ends) : Prop where
  nx : EndN K w D3.nx D2.nx
  rt : EndE K w D3.rt D2.rt
  bk : EndN K w D3.bk D2.bk
  ct : EndN K w D3.ct D2.ct
def low (t : TE3) : TE := fun σ H R => ∃ w env S Q, Rel3 K w H S ∧ EnvR K w σ env ∧ t env S Q ∧ EndE K w Q R
def lowT (t : TT3) : TT := fun σ H R => ∃ w env S Q, Rel3 K w H S ∧ EnvR K w σ env ∧ t env S Q ∧ EndT K w Q R
def lowA (t : TA3) : TA := fun σ H R => ∃ w env S Q, Rel3 K w H S ∧ EnvR K w σ env ∧ t env S Q ∧ EndA K w Q R
def lowS (t : TS3) : TS := fun D2 σ H => ∃ w env S D3, Rel3 K w H S ∧ EnvR K w σ env ∧ t D3 env S ∧ EndS K w D3 D2
def lowG (t : TG3) : TG := fun v σ H R => ∃ w env S d Q, Rel3 K w H S ∧ EnvR K w σ env ∧ RepD K w v d ∧ t d env S Q ∧ EndN K w Q R
def lowGs (t : TGs3) : TGs := fun vs σ H R => ∃ w env S ds Q, Rel3 K w H S ∧ EnvR K w σ env ∧ DpAll K w.h vs ds ∧ t ds env S Q ∧ EndN K w Q R
def lowR (r : R3) : R2 := fun x y H R => ∃ w S d e Q, Rel3 K w H S ∧ RepD K w x d ∧ RepD K w y e ∧ r d e S Q ∧ EndE K w Q R
def lowU (r : U3) : V → Hp → VK → Prop := fun x H R => ∃ w S d Q, Rel3 K w H S ∧ RepD K w x d ∧ r d S Q ∧ EndE K w Q R
def lowC (r : C3) : List V → Hp → VK → Prop := fun xs H R => ∃ w S ds Q, Rel3 K w H S ∧ RepDs K w xs ds ∧ r ds S Q ∧ EndE K w Q R
/-- an iterator that yields the items xs, as long as the store is ok -/
def ItR (w : W3) (J : It) (xs : List PyData) (ok : S3 → Prop) : Prop := ∀ w' H S, Ex0 w w' → Rel3 K w' H S → ok S →
  (∀ i, xs.length ≤ i → J.stop i H) ∧ ∀ i x, xs[i]? = some x → J.go i H ∧ ∀ v H', J.yld i H v H' → ∃ w'', Ex3 w' w'' ∧ Rel3 K w'' H' S ∧ Dp K w''.h v x
def lowI (t : TI3) : TI := fun σ H R => ∃ w env S Q, Rel3 K w H S ∧ EnvR K w σ env ∧ t env S Q ∧
  ∀ w' J H' S' xs ok, Ex3 w w' → Rel3 K w' H' S' → ItR K w' J xs ok → xs.length ≤ sizeLine → Q xs ok S' → R J H'
end
section
variable {K : PySem.W.Frag} {w w' : W3}
theorem EndE.mono {Q : K3} {R : VK} (h : EndE K w Q R) (e : Ex3 w w') : EndE K w' Q R := fun w2 v d H' S' x r rd q => h w2 v d H' S' (e.trans x) r rd q
theorem EndT.mono {Q : Bool → S3 → Prop} {R : Bool → Hp → Prop} (h : EndT K w Q R) (e : Ex3 w w') : EndT K w' Q R := fun w2 v H' S' x r q => h w2 v H' S' (e.trans x) r q
theorem EndA.mono {Q : List D → S3 → Prop} {R : List V → Hp → Prop} (h : EndA K w Q R) (e : Ex3 w w') : EndA K w' Q R := fun w2 v d H' S' x r rd q => h w2 v d H' S' (e.trans x) r rd q
theorem EndN.mono {Q : E3 → S3 → Prop} {R : L2.St → Hp → Prop} (h : EndN K w Q R) (e : Ex3 w w') : EndN K w' Q R := fun w2 v H' env S' x r rd q => h w2 v H' env S' (e.trans x) r rd q
theorem EndS.mono {D3 : N3} {D2 : Ends} (h : EndS K w D3 D2) (e : Ex3 w w') : EndS K w' D3 D2 := ⟨h.nx.mono e, h.rt.mono e, h.bk.mono e, h.ct.mono e⟩
end

/-! ### consequence -/
section
variable {X : Cx} {e : Expr} {es : List Expr} {st : Stmt} {sts : List Stmt}
theorem _root_.L2.PE.imp {t t' : TE} (h : PE X e t) (i : ∀ σ H R, t' σ H R → t σ H R) : PE X e t' := ⟨fun pins s σ H Q I q => h.run pins s σ H Q I (i _ _ _ q)⟩
theorem _root_.L2.PT.imp {t t' : TT} (h : PT X e t) (i : ∀ σ H R, t' σ H R → t σ H R) : PT X e t' := ⟨fun pins s σ H Q I q => h.run pins s σ H Q I (i _ _ _ q)⟩
theorem _root_.L2.PW.imp {t t' : TT} (h : PW X e t) (i : ∀ σ H R, t' σ H R → t σ H R) : PW X e t' := ⟨fun wh pins s σ H Q I q => h.run wh pins s σ H Q I (i _ _ _ q)⟩
theorem _root_.L2.PA.imp {t t' : TA} (h : PA X es t) (i : ∀ σ H R, t' σ H R → t σ H R) : PA X es t' := ⟨fun pos pins s σ H Q I q => h.run pos pins s σ H Q I (i _ _ _ q)⟩
theorem _root_.L2.PS.imp {t t' : TS} (h : PS X st t) (i : ∀ D σ H, t' D σ H → t D σ H) : PS X st t' := ⟨fun pins s σ H D I q => h.run pins s σ H D I (i _ _ _ q)⟩
theorem _root_.L2.PSs.imp {t t' : TS} (h : PSs X sts t) (i : ∀ D σ H, t' D σ H → t D σ H) : PSs X sts t' := ⟨fun pins s σ H D I q => h.run pins s σ H D I (i _ _ _ q)⟩
theorem _root_.L2.PG.imp {t t' : TG} (h : PG X e t) (i : ∀ v σ H R, t' v σ H R → t v σ H R) : PG X e t' := ⟨fun pins s σ H v u Q I r q => h.run pins s σ H v u Q I r (i _ _ _ _ q)⟩
theorem _root_.L2.PGs.imp {t t' : TGs} (h : PGs X es t) (i : ∀ v σ H R, t' v σ H R → t v σ H R) : PGs X es t' := ⟨fun pins s σ H v u Q I r q => h.run pins s σ H v u Q I r (i _ _ _ _ q)⟩
theorem _root_.L2.PI.imp {tg : Expr} {t t' : TI} (h : PI X tg e t) (i : ∀ σ H R, t' σ H R → t σ H R) : PI X tg e t' := ⟨fun pins s σ H R I q => h.run pins s σ H R I (i _ _ _ q)⟩
theorem OpR.imp {f : Value → Value → Sem Value} {r r' : R2} (h : OpR X f r) (i : ∀ x y H Q, r' x y H Q → r x y H Q) : OpR X f r' := fun pins s σ H x y v u Q I rx ry q => h pins s σ H x y v u Q I rx ry (i _ _ _ _ q)
theorem IxR.imp {r r' : R2} (h : IxR X r) (i : ∀ x y H Q, r' x y H Q → r x y H Q) : IxR X r' := fun a b pins s σ H x y v u Q I rx ry q => h a b pins s σ H x y v u Q I rx ry (i _ _ _ _ q)
theorem CallR.imp {f : Value} {r r' : List V → Hp → VK → Prop} (h : CallR X f r) (i : ∀ x H Q, r' x H Q → r x H Q) : CallR X f r' := fun pins s σ H xs us Q I rx q => h pins s σ H xs us Q I rx (i _ _ _ q)
theorem CallR.or {f : Value} {r r' : List V → Hp → VK → Prop} (h : CallR X f r) (h' : CallR X f r') : CallR X f (fun x H Q => r x H Q ∨ r' x H Q) := fun pins s σ H xs us Q I rx q => q.elim (h pins s σ H xs us Q I rx) (h' pins s σ H xs us Q I rx)
theorem UnR.imp {f : Value → Sem Value} {r r' : V → Hp → VK → Prop} (h : UnR X f r) (i : ∀ x H Q, r' x H Q → r x H Q) : UnR X f r' := fun pins s σ H x v Q I rx q => h pins s σ H x v Q I rx (i _ _ _ q)
theorem MtR.imp {id : String} {r r' : V → List V → Hp → VK → Prop} (h : MtR X id r) (i : ∀ x xs H Q, r' x xs H Q → r x xs H Q) : MtR X id r' := fun pins s σ H x xs v us Q I rx rs q => h pins s σ H x xs v us Q I rx rs (i _ _ _ _ q)
end

/-! ### the judgements -/
abbrev QE (X : Cx) (e : Expr) (t : TE3) : Prop := PE X e (low X.K t)
abbrev QT (X : Cx) (e : Expr) (t : TT3) : Prop := PT X e (lowT X.K t)
abbrev QW (X : Cx) (e : Expr) (t : TT3) : Prop := PW X e (lowT X.K t)
abbrev QA (X : Cx) (es : List Expr) (t : TA3) : Prop := PA X es (lowA X.K t)
abbrev QS (X : Cx) (st : Stmt) (t : TS3) : Prop := PS X st (lowS X.K t)
abbrev QSs (X : Cx) (sts : List Stmt) (t : TS3) : Prop := PSs X sts (lowS X.K t)
abbrev QG (X : Cx) (e : Expr) (t : TG3) : Prop := PG X e (lowG X.K t)
abbrev QGs (X : Cx) (es : List Expr) (t : TGs3) : Prop := PGs X es (lowGs X.K t)
abbrev QI (X : Cx) (tg e : Expr) (t : TI3) : Prop := PI X tg e (lowI X.K t)
abbrev OQ (X : Cx) (f : Value → Value → Sem Value) (r : R3) : Prop := OpR X f (lowR X.K r)
abbrev IQ (X : Cx) (r : R3) : Prop := IxR X (lowR X.K r)
abbrev UQ (X : Cx) (f : Value → Sem Value) (r : U3) : Prop := UnR X f (lowU X.K r)
abbrev CQ (X : Cx) (f : Value) (r : C3) : Prop := CallR X f (lowC X.K r)

/-! ### names, constants, operators -/
def tVar3 (i : Nat) : TE3 := fun env S Q => match at3 env i with
  | some d => Q d S
  | none => False
def tC3 (d : PyData) : TE3 := fun _ S Q => Q (.p d) S
def tOp3 (r : R3) (ta tb : TE3) : TE3 := fun env S Q => ta env S fun x S1 => tb env S1 fun y S2 => r x y S2 Q
def tUn3 (r : U3) (ta : TE3) : TE3 := fun env S Q => ta env S fun x S1 => r x S1 Q
def tNil3 : TA3 := fun _ S Q => Q [] S
def tCons3 (ta : TE3) (tr : TA3) : TA3 := fun env S Q => ta env S fun x S1 => tr env S1 fun xs S2 => Q (x :: xs) S2
def tCB3 (r : C3) (t : TA3) : TE3 := fun env S Q => t env S fun ds S1 => r ds S1 Q
section
variable {X : Cx} {a b c : Expr} {es : List Expr} {ta tb tc : TE3} {tr : TA3} {pos : Pos}
theorem qv (i : Nat) {x : Str} {pos : Pos} (hN : X.N[i]? = some x := by rfl) (hv : Vis X.env.scope x := by first | exact Or.inl rfl | exact Or.inr (Or.inl rfl) | exact Or.inr (Or.inr rfl)) (hd : (x == ("__debug__" : Str)) = false := by decide)
    (hcd : (x == ("__classdict__" : Str)) = false := by decide) : QE X (.Name x pos) (tVar3 i) := (pe_var hN hv hd hcd).imp fun σ H R ⟨w, env, S, Q, r, en, t, q⟩ => by
  unfold tVar3 at t
  cases h : at3 env i with
  | none => rw [h] at t; exact t.elim
  | some d =>
    rw [h] at t
    obtain ⟨v, h1, h2⟩ := en.2 i d h
    exact ⟨v, h1, q w v d H S (Ex3.refl w) r h2 t⟩
theorem qe_c {v : V} {d : PyData} (h : PE X a (tC v)) (hd : ∀ K H, Dp K H v d) : QE X a (tC3 d) := L2.PE.imp h fun σ H R ⟨w, env, S, Q, r, en, t, q⟩ => q w v (.p d) H S (Ex3.refl w) r (hd _ _) t
theorem qe_int {i j pos} : QE X (.Constant (.int i) j pos) (tC3 (.int i)) := qe_c pe_int fun _ _ => .int i
theorem qe_bl {i j pos} : QE X (.Constant (.bool i) j pos) (tC3 (.bool i)) := qe_c pe_bl fun _ _ => .bl i
theorem qe_non {j pos} : QE X (.Constant .none j pos) (tC3 .none) := qe_c pe_non fun _ _ => .non
theorem qe_str {x j pos} : QE X (.Constant (.str x) j pos) (tC3 (.str x)) := qe_c pe_str fun _ _ => .str x
/-- a module's constant -/
theorem qe_glob {x : Str} {v : V} {u : Value} {d : PyData} {pos : Pos} (hg : Gl X x) (hm : X.mg x = some u) (r : RelV v u) (hd : ∀ H, Dp X.K H v d) (hdb : (x == ("__debug__" : Str)) = false := by decide) : QE X (.Name x pos) (tC3 d) :=
  L2.PE.imp (pe_glob hg hm r hdb) fun σ H R ⟨w, env, S, Q, r, en, t, q⟩ => q w v (.p d) H S (Ex3.refl w) r (hd _) t

theorem low2 {K : PySem.W.Frag} {r : R3} {σ : L2.St} {H : Hp} {R : VK} (h : low K (tOp3 r ta tb) σ H R) : tOp (lowR K r) (low K ta) (low K tb) σ H R := by
  obtain ⟨w, env, S, Q, r0, en, t, q⟩ := h
  refine ⟨w, env, S, _, r0, en, t, fun w1 v1 d1 H1 S1 e1 r1 p1 t1 => ?_⟩
  refine ⟨w1, env, S1, _, r1, en.mono e1, t1, fun w2 v2 d2 H2 S2 e2 r2 p2 t2 => ?_⟩
  exact ⟨w2, S2, d1, d2, Q, r2, p1.mono e2, p2, t2, q.mono (e1.trans e2)⟩
theorem qe_op {op : Operator} {r : R3} (ho : OQ X (binaryOp op) r) (ha : QE X a ta) (hb : QE X b tb) : QE X (.BinOp a op b pos) (tOp3 r ta tb) := (pe_op ho ha hb).imp fun _ _ _ => low2
theorem qe_un {op : UnaryOp} {r : U3} (ho : UQ X (unaryOp op) r) (ha : QE X a ta) : QE X (.UnaryOp op a pos) (tUn3 r ta) := (pe_un ho ha).imp fun σ H R ⟨w, env, S, Q, r0, en, t, q⟩ =>
  ⟨w, env, S, _, r0, en, t, fun w1 v1 d1 H1 S1 e1 r1 p1 t1 => ⟨w1, S1, d1, Q, r1, p1, t1, q.mono e1⟩⟩
theorem qe_ix {r : R3} (hr : IQ X r) (ha : QE X a ta) (hb : QE X b tb) (hs : PlainIx b := by exact fun _ _ => rfl) : QE X (.Subscript a b pos) (tOp3 r ta tb) := (pe_ix hr ha hb hs).imp fun _ _ _ => low2
theorem qe_cmp {op : CmpOp} {r : R3} (ho : OQ X (compareOp op) r) (ha : QE X a ta) (hb : QE X b tb) (hm : behindInMarks op b = false := by first | exact nomark _ | rfl) : QE X (.Compare a [op] [b] pos) (tOp3 r ta tb) := (pe_cmpR ho ha hb hm).imp fun _ _ _ => low2
def tTest3 (t : TE3) : TT3 := fun env S Q => t env S fun x S1 => match x with
  | .p (.bool c) => Q c S1
  | _ => False
theorem dp_bl {K : PySem.W.Frag} {w : W3} {v : V} {b : Bool} (h : RepD K w v (.p (.bool b))) : v = .bl b := by
  have h' : Dp K w.h v (.bool b) := h
  cases h'
  rfl
theorem dp_int {K : PySem.W.Frag} {w : W3} {v : V} {b : Int} (h : RepD K w v (.p (.int b))) : v = .int b := by
  have h' : Dp K w.h v (.int b) := h
  cases h'
  rfl
theorem dp_str {K : PySem.W.Frag} {w : W3} {v : V} {b : Str} (h : RepD K w v (.p (.str b))) : v = .str b := by
  have h' : Dp K w.h v (.str b) := h
  cases h'
  rfl
theorem dp_non {K : PySem.W.Frag} {w : W3} {v : V} (h : RepD K w v (.p .none)) : v = .non := by
  have h' : Dp K w.h v .none := h
  cases h'
  rfl
theorem rep_int {K : PySem.W.Frag} {w : W3} {i : Int} : RepD K w (.int i) (.p (.int i)) := Dp.int i
theorem rep_bl {K : PySem.W.Frag} {w : W3} {i : Bool} : RepD K w (.bl i) (.p (.bool i)) := Dp.bl i
theorem rep_str {K : PySem.W.Frag} {w : W3} {i : Str} : RepD K w (.str i) (.p (.str i)) := Dp.str i
theorem rep_non {K : PySem.W.Frag} {w : W3} : RepD K w .non (.p .none) := Dp.non
theorem test_low {K : PySem.W.Frag} {t : TE3} {t2 : TE} {σ : L2.St} {H : Hp} {R : Bool → Hp → Prop} (h2 : ∀ R', low K t σ H R' → t2 σ H R') (h : lowT K (tTest3 t) σ H R) : t2 σ H fun x H' => ∃ k, x = .bl k ∧ R k H' := by
  obtain ⟨w, env, S, Q, r0, en, t, q⟩ := h
  refine h2 _ ⟨w, env, S, _, r0, en, t, fun w1 v1 d1 H1 S1 e1 r1 p1 t1 => ?_⟩
  cases d1 with
  | loc n | exc n => exact t1.elim
  | p d =>
    cases d with
    | bool c => exact ⟨c, dp_bl p1, q w1 c H1 S1 e1 r1 t1⟩
    | _ => exact t1.elim
theorem qt_cmp {op : CmpOp} {r : R3} (ho : OQ X (compareOp op) r) (ha : QE X a ta) (hb : QE X b tb) (hm : behindInMarks op b = false := by first | exact nomark _ | rfl) : QT X (.Compare a [op] [b] pos) (tTest3 (tOp3 r ta tb)) :=
  (pt_cmpR ho ha hb hm).imp fun σ H R h => test_low (fun R' => low2) h
def tChain3 (r r' : R3) (ta tb tc : TE3) : TE3 := fun env S Q => ta env S fun x S1 => tb env S1 fun y S2 => r x y S2 fun z S3 => match z with
  | .p (.bool k) => if k = true then tc env S3 fun v S4 => r' y v S4 Q else Q (.p (.bool false)) S3
  | _ => False
theorem low_chain {K : PySem.W.Frag} {r r' : R3} {σ : L2.St} {H : Hp} {R : VK} (h : low K (tChain3 r r' ta tb tc) σ H R) : tChain (lowR K r) (lowR K r') (low K ta) (low K tb) (low K tc) σ H R := by
  obtain ⟨w, env, S, Q, r0, en, t, q⟩ := h
  refine ⟨w, env, S, _, r0, en, t, fun w1 v1 d1 H1 S1 e1 r1 p1 t1 => ?_⟩
  refine ⟨w1, env, S1, _, r1, en.mono e1, t1, fun w2 v2 d2 H2 S2 e2 r2 p2 t2 => ?_⟩
  refine ⟨w2, S2, d1, d2, _, r2, p1.mono e2, p2, t2, fun w3 v3 d3 H3 S3 e3 r3 p3 t3 => ?_⟩
  cases d3 with
  | loc n | exc n => exact t3.elim
  | p d =>
    cases d with
    | bool k =>
      refine ⟨k, dp_bl p3, ?_⟩
      cases k with
      | true =>
        simp only [if_true] at t3
        rw [if_pos rfl]
        refine ⟨w3, env, S3, _, r3, en.mono ((e1.trans e2).trans e3), t3, fun w4 v4 d4 H4 S4 e4 r4 p4 t4 => ?_⟩
        exact ⟨w4, S4, d2, d4, Q, r4, p2.mono (e3.trans e4), p4, t4, q.mono (((e1.trans e2).trans e3).trans e4)⟩
      | false =>
        simp only [Bool.false_eq_true, if_false] at t3
        rw [if_neg Bool.false_ne_true]
        exact q w3 _ _ H3 S3 ((e1.trans e2).trans e3) r3 rep_bl t3
    | _ => exact t3.elim
theorem qe_chain {op op' : CmpOp} {r r' : R3} (ho : OQ X (compareOp op) r) (ho' : OQ X (compareOp op') r') (ha : QE X a ta) (hb : QE X b tb) (hc : QE X c tc)
    (hm : lastMarks [op, op'] [b, c] = false := by with_unfolding_all rfl) : QE X (.Compare a [op, op'] [b, c] pos) (tChain3 r r' ta tb tc) := (pe_chain ho ho' ha hb hc hm).imp fun _ _ _ => low_chain
theorem qt_chain {op op' : CmpOp} {r r' : R3} (ho : OQ X (compareOp op) r) (ho' : OQ X (compareOp op') r') (ha : QE X a ta) (hb : QE X b tb) (hc : QE X c tc)
    (hm : lastMarks [op, op'] [b, c] = false := by with_unfolding_all rfl) : QT X (.Compare a [op, op'] [b, c] pos) (tTest3 (tChain3 r r' ta tb tc)) := (pt_chain ho ho' ha hb hc hm).imp fun σ H R h => test_low (fun R' => low_chain) h
/-- an expression that gives a truth, as a test -/
theorem qt_val {e : Expr} {t : TE3} (h : QE X e t) (he : ∀ whole, isTrue e X.env whole = (do let v ← whole; standAt e.pos; holding [v] (truthy v)) := by intro _; rfl) : QT X e (tTest3 t) :=
  (pt_val h he).imp fun σ H R h => test_low (t2 := low X.K t) (fun R' q => q) h

/-! and, or, not, if -/
def tAnd3 (t u : TT3) : TT3 := fun env S Q => t env S fun c S1 => if c = true then u env S1 Q else Q false S1
def tOr3 (t u : TT3) : TT3 := fun env S Q => t env S fun c S1 => if c = true then Q true S1 else u env S1 Q
def tNot3 (t : TT3) : TT3 := fun env S Q => t env S fun c S1 => Q (!c) S1
variable {tA tB' : TT3} {rest : List Expr}
theorem qw_and1 (ha : QT X a tA) : QW X (.BoolOp .And [a] pos) tA := pw_and1 ha
theorem qw_or1 (ha : QT X a tA) : QW X (.BoolOp .Or [a] pos) tA := pw_or1 ha
theorem qw_and (ha : QT X a tA) (hb : QW X (.BoolOp .And (b :: rest) pos) tB') : QW X (.BoolOp .And (a :: b :: rest) pos) (tAnd3 tA tB') := (pw_and ha hb).imp fun σ H R ⟨w, env, S, Q, r0, en, t, q⟩ => by
  refine ⟨w, env, S, _, r0, en, t, fun w1 c H1 S1 e1 r1 t1 => ?_⟩
  cases c with
  | true =>
    rw [if_pos rfl] at t1 ⊢
    exact ⟨w1, env, S1, Q, r1, en.mono e1, t1, q.mono e1⟩
  | false =>
    rw [if_neg Bool.false_ne_true] at t1 ⊢
    exact q w1 false H1 S1 e1 r1 t1
theorem qw_or (ha : QT X a tA) (hb : QW X (.BoolOp .Or (b :: rest) pos) tB') : QW X (.BoolOp .Or (a :: b :: rest) pos) (tOr3 tA tB') := (pw_or ha hb).imp fun σ H R ⟨w, env, S, Q, r0, en, t, q⟩ => by
  refine ⟨w, env, S, _, r0, en, t, fun w1 c H1 S1 e1 r1 t1 => ?_⟩
  cases c with
  | false =>
    rw [if_neg Bool.false_ne_true] at t1 ⊢
    exact ⟨w1, env, S1, Q, r1, en.mono e1, t1, q.mono e1⟩
  | true =>
    rw [if_pos rfl] at t1 ⊢
    exact q w1 true H1 S1 e1 r1 t1
theorem qt_w (h : QW X a tA) : QT X a tA := PW.pt h
theorem qt_not (ha : QT X a tA) : QT X (.UnaryOp .Not a pos) (tNot3 tA) := (pt_not ha).imp fun σ H R ⟨w, env, S, Q, r0, en, t, q⟩ =>
  ⟨w, env, S, _, r0, en, t, fun w1 c H1 S1 e1 r1 t1 => q w1 (!c) H1 S1 e1 r1 t1⟩
def tAndV3 (ta tb : TE3) : TE3 := fun env S Q => ta env S fun x S1 => match x with
  | .p (.bool k) => if k = true then tb env S1 Q else Q (.p (.bool false)) S1
  | _ => False
def tOrV3 (ta tb : TE3) : TE3 := fun env S Q => ta env S fun x S1 => match x with
  | .p (.bool k) => if k = true then Q (.p (.bool true)) S1 else tb env S1 Q
  | _ => False
def tNotV3 (ta : TE3) : TE3 := fun env S Q => ta env S fun x S1 => match x with
  | .p (.bool c) => Q (.p (.bool (!c))) S1
  | _ => False
theorem qe_one {op} {t : TE3} (h : QE X a t) : QE X (.BoolOp op [a] pos) t := pe_one h
theorem qe_and (ha : QE X a ta) (hb : QE X (.BoolOp .And (b :: rest) pos) tb) : QE X (.BoolOp .And (a :: b :: rest) pos) (tAndV3 ta tb) := (pe_and ha hb).imp fun σ H R ⟨w, env, S, Q, r0, en, t, q⟩ => by
  refine ⟨w, env, S, _, r0, en, t, fun w1 v1 d1 H1 S1 e1 r1 p1 t1 => ?_⟩
  cases d1 with
  | loc n | exc n => exact t1.elim
  | p d =>
    cases d with
    | bool k =>
      refine ⟨k, dp_bl p1, ?_⟩
      cases k with
      | true =>
        simp only [if_true] at t1
        rw [if_pos rfl]
        exact ⟨w1, env, S1, Q, r1, en.mono e1, t1, q.mono e1⟩
      | false =>
        simp only [Bool.false_eq_true, if_false] at t1
        rw [if_neg Bool.false_ne_true]
        exact q w1 _ _ H1 S1 e1 r1 rep_bl t1
    | _ => exact t1.elim
theorem qe_or (ha : QE X a ta) (hb : QE X (.BoolOp .Or (b :: rest) pos) tb) : QE X (.BoolOp .Or (a :: b :: rest) pos) (tOrV3 ta tb) := (pe_or ha hb).imp fun σ H R ⟨w, env, S, Q, r0, en, t, q⟩ => by
  refine ⟨w, env, S, _, r0, en, t, fun w1 v1 d1 H1 S1 e1 r1 p1 t1 => ?_⟩
  cases d1 with
  | loc n | exc n => exact t1.elim
  | p d =>
    cases d with
    | bool k =>
      refine ⟨k, dp_bl p1, ?_⟩
      cases k with
      | false =>
        simp only [Bool.false_eq_true, if_false] at t1
        rw [if_neg Bool.false_ne_true]
        exact ⟨w1, env, S1, Q, r1, en.mono e1, t1, q.mono e1⟩
      | true =>
        simp only [if_true] at t1
        rw [if_pos rfl]
        exact q w1 _ _ H1 S1 e1 r1 rep_bl t1
    | _ => exact t1.elim
theorem qe_not (ha : QE X a ta) : QE X (.UnaryOp .Not a pos) (tNotV3 ta) := (pe_not ha).imp fun σ H R ⟨w, env, S, Q, r0, en, t, q⟩ => by
  refine ⟨w, env, S, _, r0, en, t, fun w1 v1 d1 H1 S1 e1 r1 p1 t1 => ?_⟩
  cases d1 with
  | loc n | exc n => exact t1.elim
  | p d =>
    cases d with
    | bool k => exact ⟨k, dp_bl p1, q w1 _ _ H1 S1 e1 r1 rep_bl t1⟩
    | _ => exact t1.elim
def tIf3 (t : TT3) (ta tb : TE3) : TE3 := fun env S Q => t env S fun c S1 => if c = true then ta env S1 Q else tb env S1 Q
theorem qe_if (hc : QT X c tA) (ha : QE X a ta) (hb : QE X b tb) : QE X (.IfExp c a b pos) (tIf3 tA ta tb) := (pe_ifExp hc ha hb).imp fun σ H R ⟨w, env, S, Q, r0, en, t, q⟩ => by
  refine ⟨w, env, S, _, r0, en, t, fun w1 c H1 S1 e1 r1 t1 => ?_⟩
  cases c with
  | true =>
    rw [if_pos rfl] at t1 ⊢
    exact ⟨w1, env, S1, Q, r1, en.mono e1, t1, q.mono e1⟩
  | false =>
    rw [if_neg Bool.false_ne_true] at t1 ⊢
    exact ⟨w1, env, S1, Q, r1, en.mono e1, t1, q.mono e1⟩

/-! ### arguments, calls of built-ins, displays -/
theorem qa_nil : QA X [] tNil3 := pa_nil.imp fun σ H R ⟨w, env, S, Q, r0, en, t, q⟩ => q w [] [] H S (Ex3.refl w) r0 trivial t
theorem qa_cons (ha : QE X a ta) (hr : QA X es tr) (hs : starEach (a :: es) X.env = (false, eval a X.env) :: starEach es X.env := by rfl) : QA X (a :: es) (tCons3 ta tr) := (pa_cons ha hr hs).imp fun σ H R ⟨w, env, S, Q, r0, en, t, q⟩ => by
  refine ⟨w, env, S, _, r0, en, t, fun w1 v1 d1 H1 S1 e1 r1 p1 t1 => ?_⟩
  refine ⟨w1, env, S1, _, r1, en.mono e1, t1, fun w2 vs ds H2 S2 e2 r2 p2 t2 => ?_⟩
  exact q w2 (v1 :: vs) (d1 :: ds) H2 S2 (e1.trans e2) r2 ⟨p1.mono e2, p2⟩ t2
theorem lowCB {K : PySem.W.Frag} {r : C3} {t : TA3} {σ : L2.St} {H : Hp} {R : VK} (h : low K (tCB3 r t) σ H R) : tCB (lowC K r) (lowA K t) σ H R := by
  obtain ⟨w, env, S, Q, r0, en, t, q⟩ := h
  exact ⟨w, env, S, _, r0, en, t, fun w1 vs ds H1 S1 e1 r1 p1 t1 => ⟨w1, S1, ds, Q, r1, p1, t1, q.mono e1⟩⟩
theorem qe_cb {id : String} {x : Str} {p : Pos} {r : C3} (hc : CQ X (.builtin id) r) (hg : Gl X x) (hm : X.mg x = none) (hv : bootBuiltins x = some (.builtin id)) (ha : QA X (a :: es) tr) (hn : x ≠ "__name__" := by decide) (hdb : (x == ("__debug__" : Str)) = false := by decide)
    (he : starEach (a :: es) X.env = (false, eval a X.env) :: starEach es X.env := by rfl) (hpl : (backTo pos (starEach es X.env)).any (·.1) = false := by rfl) : QE X (.Call (.Name x p) (a :: es) [] pos) (tCB3 r tr) :=
  (pe_callB hc hg hm hv ha hn hdb he hpl).imp fun _ _ _ => lowCB
theorem qe_ty {T : String} {x : Str} {p : Pos} {r : C3} (hc : CQ X (.type T) r) (hg : Gl X x) (hm : X.mg x = none) (hv : bootBuiltins x = some (.type T)) (ha : QA X (a :: es) tr) (hn : x ≠ "__name__" := by decide) (hdb : (x == ("__debug__" : Str)) = false := by decide)
    (he : starEach (a :: es) X.env = (false, eval a X.env) :: starEach es X.env := by rfl) (hpl : (backTo pos (starEach es X.env)).any (·.1) = false := by rfl) : QE X (.Call (.Name x p) (a :: es) [] pos) (tCB3 r tr) :=
  (pe_callTy hc hg hm hv ha hn hdb he hpl).imp fun _ _ _ => lowCB
end
def pures : List D → Option (List PyData)
  | [] => some []
  | .p d :: r => match pures r with
    | some ds => some (d :: ds)
    | none => none
  | _ :: _ => none
section
variable {K : PySem.W.Frag} {w : W3}
theorem pures_all : ∀ {vs : List V} {ds : List D} {es : List PyData}, RepDs K w vs ds → pures ds = some es → DpAll K w.h vs es
  | [], [], es, _, h => by cases h; exact .nil
  | v :: vs, .p d :: ds, es, r, h => by
    unfold pures at h
    cases q : pures ds with
    | none => rw [q] at h; cases h
    | some fs =>
      rw [q] at h
      cases h
      exact .cons r.1 (pures_all r.2 q)
  | v :: vs, .loc n :: ds, es, r, h => by unfold pures at h; cases h
  | [], _ :: _, _, r, _ => r.elim
  | _ :: _, [], _, r, _ => r.elim
end
def tTup3 (t : TA3) : TE3 := fun env S Q => t env S fun ds S1 => match pures ds with
  | some es => es.length ≤ sizeLine ∧ Q (.p (.tuple es)) S1
  | none => False
section
variable {X : Cx} {es : List Expr} {tr : TA3} {pos : Pos}
theorem qe_tup {x1} (h : QA X es tr) : QE X (.Tuple es x1 pos) (tTup3 tr) := (pe_tup h).imp fun σ H R ⟨w, env, S, Q, r0, en, t, q⟩ => by
  refine ⟨w, env, S, _, r0, en, t, fun w1 vs ds H1 S1 e1 r1 p1 t1 => ?_⟩
  cases hp : pures ds with
  | none => rw [hp] at t1; exact t1.elim
  | some xs =>
    rw [hp] at t1
    have ha := pures_all p1 hp
    have hl := DpAll.length ha
    refine ⟨by rw [hl]; exact t1.1, fun p hn => ?_⟩
    obtain ⟨r2, e2⟩ := r1.frz (u := .tup vs) hn (by show vs.length ≤ _; rw [hl]; exact t1.1)
    exact q _ (.ref p) (.p (.tuple xs)) _ S1 (e1.trans e2) r2 (Dp.tup (.inl (.inl upd_same)) (dpAll_mono e2.h xs vs ha)) t1.2
/-! ### an expression that makes a new list: it stays as it is, or it is an object of the store -/
abbrev TN3 := E3 → S3 → (List PyData → S3 → Prop) → Prop
def EndNew (K : PySem.W.Frag) (w : W3) (Q : List PyData → S3 → Prop) (R : VK) : Prop := ∀ w' p xs ds H' S', Ex3 w w' → Rel3 K w' H' S' → H' p = none → DpAll K w'.h xs ds → ds.length ≤ sizeLine → Q ds S' → R (.ref p) (upd H' p (.lst xs))
def lowN (K : PySem.W.Frag) (t : TN3) : TE := fun σ H R => ∃ w env S Q, Rel3 K w H S ∧ EnvR K w σ env ∧ t env S Q ∧ EndNew K w Q R
abbrev QN (X : Cx) (e : Expr) (t : TN3) : Prop := PE X e (lowN X.K t)
def tPure (t : TN3) : TE3 := fun env S Q => t env S fun ds S1 => Q (.p (.list ds)) S1
def tOwn (t : TN3) : TE3 := fun env S Q => t env S fun ds S1 => Q (.loc S1.length) (S1 ++ [some (.lst ds)])
theorem qn_pure {e : Expr} {t : TN3} (h : QN X e t) : QE X e (tPure t) := L2.PE.imp h fun σ H R ⟨w, env, S, Q, r0, en, t, q⟩ => by
  refine ⟨w, env, S, _, r0, en, t, fun w1 p xs ds H1 S1 e1 r1 hn ha hz t1 => ?_⟩
  have hl := DpAll.length ha
  obtain ⟨r2, e2⟩ := r1.frz (u := .lst xs) hn (by show xs.length ≤ _; rw [hl]; exact hz)
  exact q _ (.ref p) (.p (.list ds)) _ S1 (e1.trans e2) r2 (Dp.lst (.inl (.inl upd_same)) (dpAll_mono e2.h ds xs ha)) t1
theorem qn_own {e : Expr} {t : TN3} (h : QN X e t) : QE X e (tOwn t) := L2.PE.imp h fun σ H R ⟨w, env, S, Q, r0, en, t, q⟩ => by
  refine ⟨w, env, S, _, r0, en, t, fun w1 p xs ds H1 S1 e1 r1 hn ha hz t1 => ?_⟩
  obtain ⟨r2, e2⟩ := r1.push (u := .lst xs) (o := .lst ds) hn ⟨xs, rfl, ha, hz⟩
  refine q _ (.ref p) (.loc S1.length) _ _ (e1.trans e2) r2 ⟨p, ?_, rfl⟩ t1
  show (w1.al ++ [p])[S1.length]? = some p
  rw [← r1.len, List.getElem?_append_right (Nat.le_refl _)]
  simp
def tLst3 (t : TA3) : TN3 := fun env S Q => t env S fun ds S1 => match pures ds with
  | some es => es.length ≤ sizeLine ∧ Q es S1
  | none => False
theorem qn_lst (h : QA X es tr) : QN X (.List es pos) (tLst3 tr) := (pe_lst h).imp fun σ H R ⟨w, env, S, Q, r0, en, t, q⟩ => by
  refine ⟨w, env, S, _, r0, en, t, fun w1 vs ds H1 S1 e1 r1 p1 t1 => ?_⟩
  cases hp : pures ds with
  | none => rw [hp] at t1; exact t1.elim
  | some xs =>
    rw [hp] at t1
    have ha := pures_all p1 hp
    have hl := DpAll.length ha
    exact ⟨by rw [hl]; exact t1.1, fun p hn => q w1 p vs xs H1 S1 e1 r1 hn ha t1.1 t1.2⟩
end
end L3

namespace L3
open PySem PySem.Spec PyProof.Rows L2
/-! ### statements -/
section
variable {K : PySem.W.Frag} {w : W3} {H : Hp} {S : S3} {σ : L2.St} {env : E3}
theorem EnvR.put {v : V} {d : D} {i : Nat} (h : EnvR K w σ env) (hi : σ[i]? = some (some v)) (r : RepD K w v d) : EnvR K w σ (set3 env i d) := by
  refine ⟨by rw [set3_length]; exact h.1, fun j e q => ?_⟩
  rw [at3_set] at q
  by_cases hj : j = i ∧ i < env.length
  · rw [if_pos hj] at q
    cases q
    rw [hj.1]
    exact ⟨v, hi, r⟩
  · rw [if_neg hj] at q
    exact h.2 j e q
theorem EndS.at {D3 : N3} {D2 : Ends} (h : EndS K w D3 D2) : EndS K w D3 D2 := h
end
def tNext3 : TS3 := fun D env S => D.nx env S
def tSeq3 (t u : TS3) : TS3 := fun D env S => t { D with nx := fun e s => u D e s } env S
def tDrop3 (te : TE3) : TS3 := fun D env S => te env S fun _ S1 => D.nx env S1
def tRet3 (te : TE3) : TS3 := fun D env S => te env S D.rt
def tRetN3 : TS3 := fun D _ S => D.rt (.p .none) S
def tBreak3 : TS3 := fun D env S => D.bk env S
def tCont3 : TS3 := fun D env S => D.ct env S
def tIfS3 (c : TT3) (t u : TS3) : TS3 := fun D env S => c env S fun b S1 => if b = true then t D env S1 else u D env S1
def tNever3 : TS3 := fun _ _ _ => False
/-- an own list in slot i is said to change no more -/
def tFrz3 (i : Nat) (u : TS3) : TS3 := fun D env S => match at3 env i with
  | some (.loc n) => ∃ ds, S[n]? = some (some (.lst ds)) ∧ u D (set3 env i (.p (.list ds))) (S.set n none)
  | _ => False
section
variable {X : Cx} {st : Stmt} {rest a b : List Stmt} {t u : TS3} {e c : Expr} {te : TE3} {tc : TT3} {pos : Pos}
theorem qss_nil : QSs X [] tNext3 := pss_nil.imp fun D σ H ⟨w, env, S, D3, r, en, t, q⟩ => q.nx w σ H env S (Ex3.refl w) r en t
theorem qss_cons (h1 : QS X st t) (h2 : QSs X rest u) : QSs X (st :: rest) (tSeq3 t u) := (pss_cons h1 h2).imp fun D σ H ⟨w, env, S, D3, r, en, t, q⟩ =>
  ⟨w, env, S, _, r, en, t, ⟨fun w1 σ1 H1 env1 S1 e1 r1 en1 t1 => ⟨w1, env1, S1, D3, r1, en1, t1, q.mono e1⟩, q.rt, q.bk, q.ct⟩⟩
theorem qss_one (h1 : QS X st t) : QSs X [st] t := pss_one h1
theorem qs_pass : QS X (.Pass pos) tNext3 := ps_pass.imp fun D σ H ⟨w, env, S, D3, r, en, t, q⟩ => q.nx w σ H env S (Ex3.refl w) r en t
theorem qs_break : QS X (.Break pos) tBreak3 := ps_break.imp fun D σ H ⟨w, env, S, D3, r, en, t, q⟩ => q.bk w σ H env S (Ex3.refl w) r en t
theorem qs_continue : QS X (.Continue pos) tCont3 := ps_continue.imp fun D σ H ⟨w, env, S, D3, r, en, t, q⟩ => q.ct w σ H env S (Ex3.refl w) r en t
theorem qs_expr (he : QE X e te) (hs : swapsWith e none pos.line X.env = pure false := by rfl) : QS X (.Expr e pos) (tDrop3 te) := (ps_expr he hs).imp fun D σ H ⟨w, env, S, D3, r, en, t, q⟩ =>
  ⟨w, env, S, _, r, en, t, fun w1 v d H1 S1 e1 r1 p1 t1 => q.nx w1 σ H1 env S1 e1 r1 (en.mono e1) t1⟩
theorem qs_ret (he : QE X e te) : QS X (.Return (some e) pos) (tRet3 te) := (ps_ret he).imp fun D σ H ⟨w, env, S, D3, r, en, t, q⟩ => ⟨w, env, S, _, r, en, t, q.rt⟩
theorem qs_retN : QS X (.Return none pos) tRetN3 := ps_retN.imp fun D σ H ⟨w, env, S, D3, r, en, t, q⟩ => q.rt w .non (.p .none) H S (Ex3.refl w) r rep_non t
theorem qs_if (hc : QT X c tc) (ha : QSs X a t) (hb : QSs X b u) : QS X (.If c a b pos) (tIfS3 tc t u) := (ps_if hc ha hb).imp fun D σ H ⟨w, env, S, D3, r, en, t, q⟩ => by
  refine ⟨w, env, S, _, r, en, t, fun w1 b H1 S1 e1 r1 t1 => ?_⟩
  cases b with
  | true =>
    rw [if_pos rfl] at t1 ⊢
    exact ⟨w1, env, S1, D3, r1, en.mono e1, t1, q.mono e1⟩
  | false =>
    rw [if_neg Bool.false_ne_true] at t1 ⊢
    exact ⟨w1, env, S1, D3, r1, en.mono e1, t1, q.mono e1⟩
theorem qs_never : QS X st tNever3 := ps_never.imp fun D σ H ⟨w, env, S, D3, r, en, t, q⟩ => t.elim
theorem qss_never : QSs X rest tNever3 := pss_never.imp fun D σ H ⟨w, env, S, D3, r, en, t, q⟩ => t.elim
theorem qss_frz (i : Nat) (h : QSs X rest u) : QSs X rest (tFrz3 i u) := L2.PSs.imp h fun D σ H ⟨w, env, S, D3, r, en, t, q⟩ => by
  unfold tFrz3 at t
  split at t
  · rename_i n hn
    obtain ⟨ds, hs, t⟩ := t
    obtain ⟨v, hv, a, ha, rfl⟩ := en.2 i _ hn
    obtain ⟨u', r1, e1, d1⟩ := r.freeze ha hs
    exact ⟨_, _, _, D3, r1, (en.mono e1).put (d := .p (.list ds)) hv d1, t, q.mono e1⟩
  · exact t.elim
end

/-! ### targets: names, tuples of targets -/
mutual
inductive Tg where
  | nm (i : Nat)
  | tup (ts : Tgs)
inductive Tgs where
  | nil
  | cons (t : Tg) (r : Tgs)
end
def Tgs.len : Tgs → Nat
  | .nil => 0
  | .cons _ r => r.len + 1
mutual
def Tg.slots : Tg → List Nat
  | .nm i => [i]
  | .tup ts => ts.slots
def Tgs.slots : Tgs → List Nat
  | .nil => []
  | .cons t r => t.slots ++ r.slots
end
mutual
def g2 (K : PySem.W.Frag) : Tg → TG
  | .nm i => gName i
  | .tup ts => gTup K ts.len (gs2 K ts)
def gs2 (K : PySem.W.Frag) : Tgs → TGs
  | .nil => gNil
  | .cons t r => gCons (g2 K t) (gs2 K r)
end
mutual
def bind3 : Tg → PyData → E3 → Option E3
  | .nm i, d, env => some (set3 env i (.p d))
  | .tup ts, .tuple ds, env => binds3 ts ds env
  | .tup _, _, _ => none
def binds3 : Tgs → List PyData → E3 → Option E3
  | .nil, [], env => some env
  | .cons t r, d :: ds, env => match bind3 t d env with
    | some env1 => binds3 r ds env1
    | none => none
  | _, _, _ => none
end
abbrev QB (X : Cx) (tg : Expr) (T : Tg) : Prop := PG X tg (g2 X.K T)
abbrev QBs (X : Cx) (tgs : List Expr) (T : Tgs) : Prop := PGs X tgs (gs2 X.K T)
section
variable {X : Cx} {pos : Pos}
theorem qb_nm {i : Nat} {x : Str} (hN : X.N.Nodup) (hi : X.N[i]? = some x) (hx : Loc X.env.scope x) (hf : X.fn x = true ∨ X.env.scope.names.lookup x = some .local := by first | exact .inl rfl | exact .inr rfl | assumption) : QB X (.Name x pos) (.nm i) := pg_name hN hi hx hf
theorem qbs_nil : QBs X [] .nil := pgs_nil
theorem qbs_cons {e : Expr} {es : List Expr} {t : Tg} {r : Tgs} (h1 : QB X e t) (h2 : QBs X es r)
    (hs : (assignEach (e :: es) X.env).map (·.2) = assign e X.env :: (assignEach es X.env).map (·.2) := by rfl) : QBs X (e :: es) (.cons t r) := pgs_cons h1 h2 hs
theorem qb_tup {es : List Expr} {k : Nat} {ts : Tgs} (hc : X.calm = true) (h : QBs X es ts)
    (hn : (assignEach es X.env).length = ts.len := by rfl) (hst : (assignEach es X.env).findIdx? (·.1) = none := by rfl) : QB X (.Tuple es k pos) (.tup ts) := pg_tup hc h hn hst
end
theorem wipe_set_mem {v : Option V} : ∀ (σ : L2.St) (vs : List Nat) (i : Nat), i ∈ vs → wipe (σ.set i v) vs = wipe σ vs
  | σ, [], i, h => by cases h
  | σ, j :: vs, i, h => by
    unfold wipe
    by_cases hm : i ∈ vs
    · rw [wipe_set_mem σ vs i hm]
    · have hij : i = j := by
        rcases List.mem_cons.mp h with e | e
        · exact e
        · exact absurd e hm
      subst hij
      have go : ∀ (vs : List Nat), i ∉ vs → wipe (σ.set i v) vs = (wipe σ vs).set i v := by
        intro vs
        induction vs with
        | nil => intro _; rfl
        | cons k vs ih =>
          intro hk
          unfold wipe
          rw [ih fun z => hk (List.mem_cons_of_mem _ z), List.set_comm _ _ fun z => hk (by rw [z]; exact List.mem_cons_self)]
      rw [go vs hm, List.set_set]
theorem wipe_eq : ∀ (σ σ' : L2.St) (vs : List Nat), wipe σ vs = wipe σ' vs → ∀ (i : Nat) (v : Option V), i ∈ vs → wipe (σ.set i v) vs = wipe σ' vs := fun σ σ' vs h i v hi => (wipe_set_mem σ vs i hi).trans h
section
variable {K : PySem.W.Frag} {w : W3} {H : Hp} {S : S3}
mutual
theorem bind_low (r : Rel3 K w H S) (vs : List Nat) : ∀ (T : Tg) (d : PyData) (v : V) (σ : L2.St) (env env2 : E3), (∀ i ∈ T.slots, i ∈ vs) → EnvR K w σ env → Dp K w.h v d → bind3 T d env = some env2 →
    ∀ R : L2.St → Hp → Prop, (∀ σ', EnvR K w σ' env2 → wipe σ' vs = wipe σ vs → R σ' H) → g2 K T v σ H R
  | .nm i, d, v, σ, env, env2, hs, en, dp, hb, R, hR => by
    unfold bind3 at hb
    cases hb
    unfold g2
    exact hR _ (en.set i dp) (wipe_set_mem σ vs i (hs i (by simp [Tg.slots])))
  | .tup ts, .tuple ds, v, σ, env, env2, hs, en, dp, hb, R, hR => by
    unfold bind3 at hb
    cases dp with
    | tup hq ha =>
      unfold g2
      refine ⟨_, _, rfl, Same.sqT r.sub hq, ?_, binds_low r vs ts ds _ σ env env2 (fun i hi => hs i (by unfold Tg.slots; exact hi)) en ha hb R hR⟩
      rw [DpAll.length ha]
      exact binds_len ts ds env env2 hb
  | .tup _, .none, v, σ, env, env2, hs, en, dp, hb, R, hR => by simp [bind3] at hb
  | .tup _, .bool _, v, σ, env, env2, hs, en, dp, hb, R, hR => by simp [bind3] at hb
  | .tup _, .int _, v, σ, env, env2, hs, en, dp, hb, R, hR => by simp [bind3] at hb
  | .tup _, .str _, v, σ, env, env2, hs, en, dp, hb, R, hR => by simp [bind3] at hb
  | .tup _, .list _, v, σ, env, env2, hs, en, dp, hb, R, hR => by simp [bind3] at hb
  | .tup _, .dict _, v, σ, env, env2, hs, en, dp, hb, R, hR => by simp [bind3] at hb
theorem binds_low (r : Rel3 K w H S) (vs : List Nat) : ∀ (T : Tgs) (ds : List PyData) (us : List V) (σ : L2.St) (env env2 : E3), (∀ i ∈ T.slots, i ∈ vs) → EnvR K w σ env → DpAll K w.h us ds → binds3 T ds env = some env2 →
    ∀ R : L2.St → Hp → Prop, (∀ σ', EnvR K w σ' env2 → wipe σ' vs = wipe σ vs → R σ' H) → gs2 K T us σ H R
  | .nil, [], us, σ, env, env2, hs, en, dp, hb, R, hR => by
    unfold binds3 at hb
    cases hb
    cases dp
    unfold gs2
    exact ⟨rfl, hR σ en rfl⟩
  | .cons t q, d :: ds, us, σ, env, env2, hs, en, dp, hb, R, hR => by
    unfold binds3 at hb
    cases h1 : bind3 t d env with
    | none => rw [h1] at hb; cases hb
    | some env1 =>
      rw [h1] at hb
      cases dp with
      | cons dp1 dp2 =>
        unfold gs2
        refine ⟨_, _, rfl, bind_low r vs t d _ σ env env1 (fun i hi => hs i (by unfold Tgs.slots; exact List.mem_append_left _ hi)) en dp1 h1 _ fun σ' en' hw => ?_⟩
        exact binds_low r vs q ds _ σ' env1 env2 (fun i hi => hs i (by unfold Tgs.slots; exact List.mem_append_right _ hi)) en' dp2 hb R fun σ'' en'' hw' => hR σ'' en'' (hw'.trans hw)
  | .nil, _ :: _, us, σ, env, env2, hs, en, dp, hb, R, hR => by simp [binds3] at hb
  | .cons _ _, [], us, σ, env, env2, hs, en, dp, hb, R, hR => by simp [binds3] at hb
theorem binds_len : ∀ (T : Tgs) (ds : List PyData) (env env2 : E3), binds3 T ds env = some env2 → ds.length = T.len
  | .nil, [], _, _, _ => rfl
  | .cons t q, d :: ds, env, env2, hb => by
    unfold binds3 at hb
    cases h1 : bind3 t d env with
    | none => rw [h1] at hb; cases hb
    | some env1 =>
      rw [h1] at hb
      show ds.length + 1 = q.len + 1
      rw [binds_len q ds env1 env2 hb]
  | .nil, _ :: _, env, env2, hb => by simp [binds3] at hb
  | .cons _ _, [], env, env2, hb => by simp [binds3] at hb
end
end
/-- target = e, a target of names -/
def tAsgT3 (te : TE3) (T : Tg) : TS3 := fun D env S => te env S fun x S1 => match x with
  | .p d => match bind3 T d env with
    | some env2 => D.nx env2 S1
    | none => False
  | _ => False
/-- name = e -/
def tSet3 (i : Nat) (te : TE3) : TS3 := fun D env S => te env S fun x S1 => D.nx (set3 env i x) S1
section
variable {X : Cx} {e tg : Expr} {te : TE3} {T : Tg} {pos : Pos}
theorem qs_asgT (he : QE X e te) (hg : QB X tg T) (hs : swapsWithSole [tg] e pos.line X.env = pure false := by rfl) (hw : swappedStores [tg] e X.env = pure none := by rfl)
    (h1 : (assignEach [tg] X.env).map (·.2) = [assign tg X.env] := by rfl) : QS X (.Assign [tg] e pos) (tAsgT3 te T) := (ps_asg he hg hs hw h1).imp fun D σ H ⟨w, env, S, D3, r, en, t, q⟩ => by
  refine ⟨w, env, S, _, r, en, t, fun w1 v d H1 S1 e1 r1 p1 t1 => ?_⟩
  cases d with
  | loc n | exc n => exact t1.elim
  | p d =>
    cases hb : bind3 T d env with
    | none =>
      simp only [hb] at t1
    | some env2 =>
      simp only [hb] at t1
      exact bind_low r1 T.slots T d v σ env env2 (fun _ h => h) (en.mono e1) p1 hb _ fun σ' en' _ => q.nx w1 σ' H1 env2 S1 e1 r1 en' t1
theorem qs_set {i : Nat} {x : Str} {pos' : Pos} (hN : X.N.Nodup) (hi : X.N[i]? = some x) (hx : Loc X.env.scope x) (he : QE X e te) (hs : swapsWith e (some (.Name x pos')) pos.line X.env = pure false := by rfl) (hf : X.fn x = true ∨ X.env.scope.names.lookup x = some .local := by first | exact .inl rfl | exact .inr rfl | assumption) :
    QS X (.Assign [.Name x pos'] e pos) (tSet3 i te) := (ps_set hN hi hx he hs hf).imp fun D σ H ⟨w, env, S, D3, r, en, t, q⟩ =>
  ⟨w, env, S, _, r, en, t, fun w1 v d H1 S1 e1 r1 p1 t1 => q.nx w1 _ H1 _ S1 e1 r1 ((en.mono e1).set i p1) t1⟩
/-- a, b = x, y -/
def tPr3 (i j : Nat) (ta : TA3) : TS3 := fun D env S => ta env S fun ds S1 => match ds with
  | [x, y] => D.nx (set3 (set3 env i x) j y) S1
  | _ => False
theorem qs_par {i j : Nat} {x y : Str} {a b : Expr} {ta : TA3} {px py pt : Pos} {kt k2 pt2} (hc : X.calm = true) (hN : X.N.Nodup) (hi : X.N[i]? = some x) (hj : X.N[j]? = some y) (hij : i ≠ j)
    (hx : X.env.scope.names.lookup x = some .local) (hy : X.env.scope.names.lookup y = some .local) (ha : QA X [a, b] ta)
    (hw : swappedStores [.Tuple [.Name x px, .Name y py] kt pt] (.Tuple [a, b] k2 pt2) X.env = pure (some [x, y]))
    (hs : swapsWithSole [.Tuple [.Name x px, .Name y py] kt pt] (.Tuple [a, b] k2 pt2) pos.line X.env = pure false := by rfl) :
    QS X (.Assign [.Tuple [.Name x px, .Name y py] kt pt] (.Tuple [a, b] k2 pt2) pos) (tPr3 i j ta) := (ps_par hc hN hi hj hij hx hy ha hw hs).imp fun D σ H ⟨w, env, S, D3, r, en, t, q⟩ => by
  refine ⟨w, env, S, _, r, en, t, fun w1 vs ds H1 S1 e1 r1 p1 t1 => ?_⟩
  match vs, ds, p1, t1 with
  | [v, u], [x, y], p1, t1 =>
    exact ⟨v, u, rfl, q.nx w1 _ H1 _ S1 e1 r1 (((en.mono e1).set i p1.1).set j p1.2.1) t1⟩
  | [], [x, y], p1, _ => exact p1.elim
  | [_], [x, y], p1, _ => exact p1.2.elim
  | _ :: _ :: _ :: _, [x, y], p1, _ => exact p1.2.2.elim
end

/-! ### what a loop walks -/
def tSeqI3 (te : TE3) : TI3 := fun env S Q => te env S fun x S1 => match x with
  | .p (.list ds) => Q ds (fun _ => True) S1
  | .p (.tuple ds) => Q ds (fun _ => True) S1
  | .loc n => ∃ ds, S1[n]? = some (some (.lst ds)) ∧ Q ds (fun S => S[n]? = some (some (.lst ds))) S1
  | _ => False
def rng (lo : Int) (n : Nat) : List PyData := (List.range n).map fun i => .int (lo + (i : Nat))
theorem rng_get {lo : Int} {n i : Nat} {x : PyData} (h : (rng lo n)[i]? = some x) : i < n ∧ x = .int (lo + (i : Nat)) := by
  unfold rng at h
  rw [List.getElem?_map] at h
  cases q : (List.range n)[i]? with
  | none => rw [q] at h; cases h
  | some j =>
    rw [q] at h
    cases h
    obtain ⟨h1, h2⟩ := List.getElem?_eq_some_iff.mp q
    rw [List.getElem_range] at h2
    rw [List.length_range] at h1
    exact ⟨h1, by rw [h2]⟩
theorem rng_len (lo : Int) (n : Nat) : (rng lo n).length = n := by unfold rng; rw [List.length_map, List.length_range]
def tRng1 (ta : TA3) : TI3 := fun env S Q => ta env S fun ds S1 => match ds with
  | [.p (.int n)] => (-4611686018427387904 ≤ n ∧ n ≤ 16777216) ∧ Q (rng 0 n.toNat) (fun _ => True) S1
  | _ => False
def tRng2 (ta : TA3) : TI3 := fun env S Q => ta env S fun ds S1 => match ds with
  | [.p (.int a), .p (.int b)] => (-16777216 ≤ a ∧ a ≤ 16777216 ∧ -16777216 ≤ b ∧ b ≤ 16777216 ∧ b - a ≤ 16777216) ∧ Q (rng a (b - a).toNat) (fun _ => True) S1
  | _ => False
/-- lists of pairs -/
def zip3 (xs ys : List PyData) : List PyData := (xs.zip ys).map fun p => .tuple [p.1, p.2]
def enum3 (xs : List PyData) : List PyData := xs.zipIdx.map fun p => .tuple [.int (p.2 : Nat), p.1]
section
variable {K : PySem.W.Frag} {w : W3} {H : Hp} {S : S3}
theorem itr_list {a : Addr} {ds : List PyData} (h : Dp K w.h (.ref a) (.list ds)) : ItR K w (Itl K a) ds fun _ => True := fun w' H S e r _ => by
  have h' := dp_mono e.h _ _ h
  cases h' with
  | lst hq ha =>
    have hl := DpAll.length ha
    have hq' := L2.Same.seq r.sub hq
    refine ⟨fun i hi => ⟨_, hq', by omega⟩, fun i x hx => ?_⟩
    obtain ⟨v, h1, h2⟩ := DpAll.get ha hx
    refine ⟨⟨_, v, hq', h1⟩, fun u H' y => ?_⟩
    obtain ⟨rfl, y⟩ := y
    have := (y _ hq').symm.trans h1
    cases this
    exact ⟨w', Ex3.refl _, r, h2⟩
theorem itr_tup {a : Addr} {ds : List PyData} (h : Dp K w.h (.ref a) (.tuple ds)) : ItR K w (Itt K a) ds fun _ => True := fun w' H S e r _ => by
  have h' := dp_mono e.h _ _ h
  cases h' with
  | tup hq ha =>
    have hl := DpAll.length ha
    have hq' := Same.sqT r.sub hq
    refine ⟨fun i hi => ⟨_, hq', by omega⟩, fun i x hx => ?_⟩
    obtain ⟨v, h1, h2⟩ := DpAll.get ha hx
    refine ⟨⟨_, v, hq', h1⟩, fun u H' y => ?_⟩
    obtain ⟨rfl, y⟩ := y
    have := (y _ hq').symm.trans h1
    cases this
    exact ⟨w', Ex3.refl _, r, h2⟩
theorem itr_loc {a : Addr} {n : Nat} {ds : List PyData} (ha : w.al[n]? = some a) : ItR K w (Itl K a) ds fun S => S[n]? = some (some (.lst ds)) := fun w' H S e r hs => by
  obtain ⟨_, u, hu, xs, rfl, hd, _⟩ := r.live n a _ (e.get ha) hs
  have hl := DpAll.length hd
  have hq : SqL K H a xs := .inl (.inl hu)
  refine ⟨fun i hi => ⟨_, hq, by omega⟩, fun i x hx => ?_⟩
  obtain ⟨v, h1, h2⟩ := DpAll.get hd hx
  refine ⟨⟨_, v, hq, h1⟩, fun u H' y => ?_⟩
  obtain ⟨rfl, y⟩ := y
  have := (y _ hq).symm.trans h1
  cases this
  exact ⟨w', Ex3.refl _, r, h2⟩
theorem itr_rng {lo : Int} {n : Nat} : ItR K w (Itr lo n) (rng lo n) fun _ => True := fun w' H S e r _ => by
  refine ⟨fun i hi => by rw [rng_len] at hi; exact hi, fun i x hx => ?_⟩
  obtain ⟨h1, rfl⟩ := rng_get hx
  refine ⟨h1, fun v H' y => ?_⟩
  obtain ⟨rfl, rfl⟩ := y
  exact ⟨w', Ex3.refl _, r, .int _⟩
theorem len_list {a : Addr} {ds : List PyData} (r : Rel3 K w H S) (h : Dp K w.h (.ref a) (.list ds)) : ds.length ≤ sizeLine := by
  cases h with
  | lst hq ha =>
    rw [← DpAll.length ha]
    exact r.szL hq
theorem len_tup {a : Addr} {ds : List PyData} (r : Rel3 K w H S) (h : Dp K w.h (.ref a) (.tuple ds)) : ds.length ≤ sizeLine := by
  cases h with
  | tup hq ha =>
    rw [← DpAll.length ha]
    exact r.szT hq
theorem dp_list_ref {h : Hp} {v : V} {ds : List PyData} (q : Dp K h v (.list ds)) : ∃ a xs, v = .ref a ∧ SqL K h a xs ∧ DpAll K h xs ds := by
  cases q with
  | lst hq ha => exact ⟨_, _, rfl, hq, ha⟩
theorem dp_tup_ref {h : Hp} {v : V} {ds : List PyData} (q : Dp K h v (.tuple ds)) : ∃ a xs, v = .ref a ∧ SqT K h a xs ∧ DpAll K h xs ds := by
  cases q with
  | tup hq ha => exact ⟨_, _, rfl, hq, ha⟩
end
section
variable {X : Cx} {tg l a b : Expr} {te : TE3} {ta : TA3} {p pos : Pos}
/-- a list or a tuple, walked -/
def iSeq (K : PySem.W.Frag) (tl : TE) : TI := fun σ H R => tl σ H fun x H1 => ∃ a, x = .ref a ∧ (((∃ xs, SqL K H1 a xs) ∧ R (Itl K a) H1) ∨ ((∃ xs, SqT K H1 a xs) ∧ R (Itt K a) H1))
theorem pi_seq {tl : TE} (hl : PE X l tl) : PI X tg l (iSeq X.K tl) := by
  refine ⟨fun pins s σ H R I h => ?_⟩
  refine thn (hl.run pins s σ H _ I h) fun v s1 ⟨x, H1, I1, r1, q1⟩ => ?_
  obtain ⟨a, e, q1⟩ := q1
  subst e
  cases r1
  rcases q1 with ⟨⟨xs, hq⟩, q⟩ | ⟨⟨xs, hq⟩, q⟩
  · obtain ⟨its, rv, p, hz⟩ := I1.list hq
    refine wpAny_pyIter_list p.isList ?_
    refine ⟨s1.heap.objs.size, [s1.heap.objs.size], _, _, H1, rfl, I1.kept (t' := s1.toks) fun b o e => Heap.get?_push_of_some _ e, turn_list a _, ⟨_, Heap.get?_push_size _ rfl, rfl, rfl⟩, fun b hb => ?_, q⟩
    have e : b = s1.heap.objs.size := by simpa using hb
    subst e
    exact I1.fpOk (Nat.le_refl _) (I1.hok.fresh (Nat.le_refl _))
  · obtain ⟨its, rv, p, hz⟩ := I1.tuple hq
    refine wpAny_pyIter_tuple (show s1.heap.IsTuple a its.toArray from p) ?_
    refine ⟨s1.heap.objs.size, [s1.heap.objs.size], _, _, H1, rfl, I1.kept (t' := s1.toks) fun b o e => Heap.get?_push_of_some _ e, turn_tuple a _, ⟨_, Heap.get?_push_size _ rfl, rfl, rfl⟩, fun b hb => ?_, q⟩
    have e : b = s1.heap.objs.size := by simpa using hb
    subst e
    exact I1.fpOk (Nat.le_refl _) (I1.hok.fresh (Nat.le_refl _))
theorem qi_seq (hl : QE X l te) : QI X tg l (tSeqI3 te) := (pi_seq hl).imp fun σ H R ⟨w, env, S, Q, r0, en, t, q⟩ => by
  refine ⟨w, env, S, _, r0, en, t, fun w1 v d H1 S1 e1 r1 p1 t1 => ?_⟩
  match d, p1, t1 with
  | .p (.list ds), p1, t1 =>
    obtain ⟨a, xs, rfl, hq, ha⟩ := dp_list_ref p1
    exact ⟨a, rfl, .inl ⟨⟨xs, L2.Same.seq r1.sub hq⟩, q w1 _ H1 S1 ds _ e1 r1 (itr_list p1) (len_list r1 p1) t1⟩⟩
  | .p (.tuple ds), p1, t1 =>
    obtain ⟨a, xs, rfl, hq, ha⟩ := dp_tup_ref p1
    exact ⟨a, rfl, .inr ⟨⟨xs, Same.sqT r1.sub hq⟩, q w1 _ H1 S1 ds _ e1 r1 (itr_tup p1) (len_tup r1 p1) t1⟩⟩
  | .loc n, p1, t1 =>
    obtain ⟨ds, hs, t1⟩ := t1
    obtain ⟨a, ha, rfl⟩ := p1
    obtain ⟨_, u, hu, xs, rfl, hd, hz⟩ := r1.live n a _ ha hs
    exact ⟨a, rfl, .inl ⟨⟨xs, .inl (.inl hu)⟩, q w1 _ H1 S1 ds _ e1 r1 (itr_loc ha) hz t1⟩⟩
theorem qi_range1 (hg : Gl X "range") (hm : X.mg "range" = none) (ha : QA X [a] ta) (hs : starEach [a] X.env = [(false, eval a X.env)] := by rfl) : QI X tg (.Call (.Name "range" p) [a] [] pos) (tRng1 ta) := (pi_range1 hg hm ha hs).imp fun σ H R ⟨w, env, S, Q, r0, en, t, q⟩ => by
  refine ⟨w, env, S, _, r0, en, t, fun w1 vs ds H1 S1 e1 r1 p1 t1 => ?_⟩
  match vs, ds, p1, t1 with
  | [v], [.p (.int n)], p1, t1 =>
    have := dp_int p1.1
    subst this
    have hz : sizeLine = 16777216 := sizeLine_eq
    refine ⟨n, rfl, by omega, by omega, q w1 _ H1 S1 _ _ e1 r1 itr_rng (by rw [rng_len]; omega) t1.2⟩
  | [], [.p (.int n)], p1, _ => exact p1.elim
  | _ :: _ :: _, [.p (.int n)], p1, _ => exact p1.2.elim
theorem qi_range2 (hg : Gl X "range") (hm : X.mg "range" = none) (ha : QA X [a, b] ta) (hs : starEach [a, b] X.env = [(false, eval a X.env), (false, eval b X.env)] := by rfl) (hs2 : starEach [b] X.env = [(false, eval b X.env)] := by rfl) : QI X tg (.Call (.Name "range" p) [a, b] [] pos) (tRng2 ta) := (pi_range2 hg hm ha hs hs2).imp fun σ H R ⟨w, env, S, Q, r0, en, t, q⟩ => by
  refine ⟨w, env, S, _, r0, en, t, fun w1 vs ds H1 S1 e1 r1 p1 t1 => ?_⟩
  match vs, ds, p1, t1 with
  | [v, u], [.p (.int n), .p (.int m)], p1, t1 =>
    have := dp_int p1.1
    subst this
    have := dp_int p1.2.1
    subst this
    have hz : sizeLine = 16777216 := sizeLine_eq
    refine ⟨n, m, rfl, by omega, q w1 _ H1 S1 _ _ e1 r1 itr_rng (by rw [rng_len]; omega) t1.2⟩
  | [], [.p (.int n), .p (.int m)], p1, _ => exact p1.elim
  | [_], [.p (.int n), .p (.int m)], p1, _ => exact p1.2.elim
  | _ :: _ :: _ :: _, [.p (.int n), .p (.int m)], p1, _ => exact p1.2.2.elim
end

/-! ### loops -/
def below (L : Nat) : D → Prop
  | .loc n => n < L
  | _ => True
/-- slots are forgotten, the store's last objects too -/
def Fits (env env' : E3) (L : Nat) : Prop := env'.length = env.length ∧ ∀ i d, at3 env' i = some d → at3 env i = some d ∧ below L d
def Wk (n : Nat) (I : E3 → S3 → Prop) : E3 → S3 → Prop := fun env S => I env S ∨ ∃ L env', n ≤ L ∧ Fits env env' L ∧ I env' (S.take L)
theorem wk_low {K : PySem.W.Frag} {w w' : W3} {H : Hp} {S : S3} {σ : L2.St} {env : E3} {n : Nat} {I : E3 → S3 → Prop} (hn : w.al.length ≤ n) (e : Ex3 w w') (r : Rel3 K w' H S) (en : EnvR K w' σ env) (h : Wk n I env S) :
    ∃ w2 env2 S2, Ex3 w w2 ∧ Rel3 K w2 H S2 ∧ EnvR K w2 σ env2 ∧ I env2 S2 := by
  rcases h with h | ⟨L, env', hL, hf, h⟩
  · exact ⟨w', env, S, e, r, en, h⟩
  · refine ⟨⟨w'.al.take L, w'.h, w'.pn⟩, env', _, ⟨⟨?_, e.h⟩, e.pn⟩, r.shrink L, ⟨en.1.trans hf.1.symm, fun i d hd => ?_⟩, h⟩
    · obtain ⟨t, ht⟩ := e.al
      refine ⟨t.take (L - w.al.length), ?_⟩
      show w'.al.take L = _
      rw [ht, List.take_append, List.take_of_length_le (by omega)]
    · obtain ⟨h1, h2⟩ := hf.2 i d hd
      obtain ⟨v, h3, h4⟩ := en.2 i d h1
      refine ⟨v, h3, ?_⟩
      cases d with
      | p d => exact h4
      | exc c => exact h4
      | loc m =>
        obtain ⟨a, h5, h6⟩ := h4
        exact ⟨a, by show (w'.al.take L)[m]? = _; rw [List.getElem?_take_of_lt h2]; exact h5, h6⟩
def tFor3 (ti : TI3) (T : Tg) (tb : TS3) : TS3 := fun D env S => ti env S fun xs ok S1 => ∃ I : Nat → E3 → S3 → Prop, I 0 env S1 ∧ (∀ i e s, I i e s → ok s) ∧
  (∀ i x e s, xs[i]? = some x → I i e s → match bind3 T x e with
    | some e2 => tb { D with nx := Wk S1.length (I (i + 1)), ct := Wk S1.length (I (i + 1)), bk := D.nx } e2 s
    | none => False) ∧ ∀ e s, I xs.length e s → D.nx e s
section
variable {X : Cx} {tg iter : Expr} {body : List Stmt} {ti : TI3} {T : Tg} {tb : TS3} {tc : TT3} {c : Expr} {pos : Pos}
theorem qs_for (hp : PassesOwn (model X.prog X.w) X.A X.env X.xe) (hc : X.calm = true) (hi : QI X tg iter ti) (hg : QB X tg T) (hb : QSs X body tb)
    (hs : ∀ x, foldedSetIterable iter X.env x = pure x := by intro _; rfl) : QS X (.For tg iter body [] pos) (tFor3 ti T tb) := (ps_for hp hc hi hg hb hs).imp fun D σ H ⟨w, env, S, D3, r0, en, t, q⟩ => by
  refine ⟨w, env, S, _, r0, en, t, fun w1 J H1 S1 xs ok e1 r1 hJ hz t1 => ?_⟩
  obtain ⟨I, h0, hok, hs, hd⟩ := t1
  refine ⟨fun i m σ H => i ≤ xs.length ∧ m = xs.length - i ∧ ∃ w2 e s, Ex3 w1 w2 ∧ Rel3 X.K w2 H s ∧ EnvR X.K w2 σ e ∧ I i e s, ⟨_, Nat.zero_le _, rfl, w1, env, S1, Ex3.refl _, r1, en.mono e1, h0⟩, ?_⟩
  rintro i m σ2 H2 ⟨hi, rfl, w2, e, s, e2, r2, en2, h2⟩
  obtain ⟨hstop, hgo⟩ := hJ w2 H2 s e2.toEx0 r2 (hok i e s h2)
  by_cases hlt : i < xs.length
  · obtain ⟨go, hy⟩ := hgo i xs[i] (List.getElem?_eq_getElem hlt)
    refine .inr ⟨go, fun σ' H' => ∃ w' e' s', Ex3 w1 w' ∧ Rel3 X.K w' H' s' ∧ EnvR X.K w' σ' e' ∧ I (i + 1) e' s', fun σ' H' ⟨w', e', s', a1, a2, a3, a4⟩ => ⟨xs.length - (i + 1), by omega, hlt, rfl, w', e', s', a1, a2, a3, a4⟩, fun x H' y => ?_⟩
    obtain ⟨w3, e3, r3, d3⟩ := hy x H' y
    have step := hs i xs[i] e s (List.getElem?_eq_getElem hlt) h2
    cases hbd : bind3 T xs[i] e with
    | none => rw [hbd] at step; exact step.elim
    | some env3 =>
      rw [hbd] at step
      refine bind_low r3 T.slots T xs[i] x σ2 e env3 (fun _ h => h) (en2.mono e3) d3 hbd _ fun σ3 en3 _ => ?_
      have back : EndN X.K w3 (Wk S1.length (I (i + 1))) fun σ' H' => ∃ w' e' s', Ex3 w1 w' ∧ Rel3 X.K w' H' s' ∧ EnvR X.K w' σ' e' ∧ I (i + 1) e' s' := fun w4 σ4 H4 e4 s4 x4 r4 en4 h4 => by
        obtain ⟨w5, e5, s5, a1, a2, a3, a4⟩ := wk_low (w := w1) (by rw [r1.len]; exact Nat.le_refl _) ((e2.trans e3).trans x4) r4 en4 h4
        exact ⟨w5, e5, s5, a1, a2, a3, a4⟩
      exact ⟨w3, env3, s, _, r3, en3, step, ⟨back, q.rt.mono (((e1.trans e2).trans e3)), q.nx.mono (((e1.trans e2).trans e3)), back⟩⟩
  · have e' : i = xs.length := by omega
    subst e'
    exact .inl ⟨hstop _ (Nat.le_refl _), q.nx w2 σ2 H2 e s (e1.trans e2) r2 en2 (hd e s h2)⟩
def tWhile3 (tc : TT3) (tb : TS3) : TS3 := fun D env S => ∃ I : Nat → E3 → S3 → Prop, (∃ m, I m env S) ∧ ∀ m e s, I m e s → tc e s fun b s1 =>
  if b = true then tb { D with nx := Wk S.length fun e' s' => ∃ m', m' < m ∧ I m' e' s', ct := Wk S.length fun e' s' => ∃ m', m' < m ∧ I m' e' s', bk := D.nx } e s1 else D.nx e s1
theorem qs_while (hp : PassesOwn (model X.prog X.w) X.A X.env X.xe) (hc : QT X c tc) (hb : QSs X body tb) : QS X (.While c body [] pos) (tWhile3 tc tb) := (ps_while hp hc hb).imp fun D σ H ⟨w, env, S, D3, r0, en, t, q⟩ => by
  obtain ⟨I, ⟨m0, h0⟩, ht⟩ := t
  refine ⟨fun m σ H => ∃ w2 e s, Ex3 w w2 ∧ Rel3 X.K w2 H s ∧ EnvR X.K w2 σ e ∧ I m e s, ⟨m0, w, env, S, Ex3.refl _, r0, en, h0⟩, ?_⟩
  rintro m σ2 H2 ⟨w2, e, s, e2, r2, en2, h2⟩
  refine ⟨w2, e, s, _, r2, en2, ht m e s h2, fun w3 b H3 S3 e3 r3 t3 => ?_⟩
  cases b with
  | true =>
    rw [if_pos rfl] at t3 ⊢
    refine ⟨fun σ' H' => ∃ m', m' < m ∧ ∃ w' e' s', Ex3 w w' ∧ Rel3 X.K w' H' s' ∧ EnvR X.K w' σ' e' ∧ I m' e' s', fun σ' H' h => h, ?_⟩
    have back : EndN X.K w3 (Wk S.length fun e' s' => ∃ m', m' < m ∧ I m' e' s') fun σ' H' => ∃ m', m' < m ∧ ∃ w' e' s', Ex3 w w' ∧ Rel3 X.K w' H' s' ∧ EnvR X.K w' σ' e' ∧ I m' e' s' := fun w4 σ4 H4 e4 s4 x4 r4 en4 h4 => by
      obtain ⟨w5, e5, s5, a1, a2, a3, m', hm, a4⟩ := wk_low (w := w) (by rw [r0.len]; exact Nat.le_refl _) ((e2.trans e3).trans x4) r4 en4 h4
      exact ⟨m', hm, w5, e5, s5, a1, a2, a3, a4⟩
    exact ⟨w3, e, S3, _, r3, en2.mono e3, t3, ⟨back, q.rt.mono (e2.trans e3), q.nx.mono (e2.trans e3), back⟩⟩
  | false =>
    rw [if_neg Bool.false_ne_true] at t3 ⊢
    exact q.nx w3 σ2 H3 e S3 (e2.trans e3) r3 (en2.mono e3) t3
end

/-! ### comprehensions -/
def wipe3 (env : E3) : List Nat → E3
  | [] => env
  | v :: vs => clr (wipe3 env vs) v
where clr : E3 → Nat → E3
  | [], _ => []
  | _ :: r, 0 => none :: r
  | x :: r, n + 1 => x :: clr r n
theorem clr_length : ∀ (env : E3) (i : Nat), (wipe3.clr env i).length = env.length
  | [], _ => rfl
  | _ :: _, 0 => rfl
  | _ :: r, n + 1 => congrArg (· + 1) (clr_length r n)
theorem clr_at : ∀ (env : E3) (i j : Nat) (d : D), at3 (wipe3.clr env i) j = some d → at3 env j = some d ∧ j ≠ i
  | [], i, j, d, h => by simp [wipe3.clr, at3] at h
  | x :: r, 0, 0, d, h => by simp [wipe3.clr, at3] at h
  | x :: r, 0, j + 1, d, h => ⟨h, by simp⟩
  | x :: r, i + 1, 0, d, h => ⟨h, by simp⟩
  | x :: r, i + 1, j + 1, d, h => by
    obtain ⟨h1, h2⟩ := clr_at r i j d h
    exact ⟨h1, by omega⟩
theorem wipe3_length (env : E3) : ∀ vs, (wipe3 env vs).length = env.length
  | [] => rfl
  | v :: vs => by unfold wipe3; rw [clr_length, wipe3_length env vs]
theorem wipe3_at (env : E3) : ∀ (vs : List Nat) (j : Nat) (d : D), at3 (wipe3 env vs) j = some d → at3 env j = some d ∧ j ∉ vs
  | [], j, d, h => ⟨h, by simp⟩
  | v :: vs, j, d, h => by
    unfold wipe3 at h
    obtain ⟨h1, h2⟩ := clr_at _ _ _ _ h
    obtain ⟨h3, h4⟩ := wipe3_at env vs j d h1
    exact ⟨h3, by simp only [List.mem_cons, not_or]; exact ⟨h2, h4⟩⟩
theorem EnvR.wipe {K : PySem.W.Frag} {w : W3} {σ : L2.St} {env : E3} (h : EnvR K w σ env) (vs : List Nat) : EnvR K w (wipe σ vs) (wipe3 env vs) := by
  refine ⟨by rw [wipe_length, wipe3_length]; exact h.1, fun i d q => ?_⟩
  obtain ⟨h1, h2⟩ := wipe3_at env vs i d q
  obtain ⟨v, h3, h4⟩ := h.2 i d h1
  refine ⟨v, ?_, h4⟩
  rw [wipe_out h2]
  exact h3
def tLc3 (ti : TI3) (T : Tg) (tt : TT3) (te : TE3) (vs : List Nat) : TN3 := fun env S Q => ti env S fun xs ok S1 => ∃ I : Nat → List PyData → S3 → Prop, I 0 [] S1 ∧ (∀ i acc s, I i acc s → ok s) ∧
  (∀ i x acc s, xs[i]? = some x → I i acc s → match bind3 T x (wipe3 env vs) with
    | some e2 => tt e2 s fun b s1 => if b = true then te e2 s1 fun y s2 => match y with
        | .p d => I (i + 1) (acc ++ [d]) s2
        | _ => False
      else I (i + 1) acc s1
    | none => False) ∧ ∀ acc s, I xs.length acc s → Q acc s
def tYes3 : TT3 := fun _ S Q => Q true S
theorem lc_low {K : PySem.W.Frag} {ti : TI3} {T : Tg} {tt : TT3} {te : TE3} {vs : List Nat} {σ : L2.St} {H : Hp} {R : VK} (hv : ∀ i ∈ T.slots, i ∈ vs) (h : lowN K (tLc3 ti T tt te vs) σ H R) : tLc (lowI K ti) (g2 K T) (lowT K tt) (low K te) vs σ H R := by
  obtain ⟨w, env, S, Q, r0, en, t, q⟩ := h
  refine ⟨w, env, S, _, r0, en, t, fun w1 J H1 S1 xs ok e1 r1 hJ hz t1 => fun D hD => ?_⟩
  obtain ⟨I, h0, hok, hs, hd⟩ := t1
  refine ⟨fun i m H => i ≤ xs.length ∧ m = xs.length - i ∧ ∃ al h s acc ys, Ex0 w1 ⟨al, h, (D, .lst ys) :: w1.pn⟩ ∧ Rel3 K ⟨al, h, (D, .lst ys) :: w1.pn⟩ H s ∧ DpAll K h ys acc ∧ acc.length ≤ i ∧ I i acc s,
    ⟨_, Nat.zero_le _, rfl, w1.al, w1.h, S1, [], [], ⟨⟨[], by simp⟩, Same.refl _⟩, r1.pinNew hD, .nil, Nat.le_refl _, h0⟩, ?_⟩
  rintro i m H2 ⟨hi, rfl, al, h, s, acc, ys, e2, r2, da, hacc, h2⟩
  obtain ⟨hstop, hgo⟩ := hJ _ H2 s e2 r2 (hok i acc s h2)
  by_cases hlt : i < xs.length
  · obtain ⟨go, hy⟩ := hgo i xs[i] (List.getElem?_eq_getElem hlt)
    refine .inr ⟨go, fun H' => ∃ al h s acc ys, Ex0 w1 ⟨al, h, (D, .lst ys) :: w1.pn⟩ ∧ Rel3 K ⟨al, h, (D, .lst ys) :: w1.pn⟩ H' s ∧ DpAll K h ys acc ∧ acc.length ≤ i + 1 ∧ I (i + 1) acc s,
      fun H' ⟨al, h, s, acc, ys, a1, a2, a3, a4, a5⟩ => ⟨xs.length - (i + 1), by omega, hlt, rfl, al, h, s, acc, ys, a1, a2, a3, a4, a5⟩, fun x H' y => ?_⟩
    obtain ⟨w3, e3, r3, d3⟩ := hy x H' y
    have step := hs i xs[i] acc s (List.getElem?_eq_getElem hlt) h2
    cases hbd : bind3 T xs[i] (wipe3 env vs) with
    | none => rw [hbd] at step; exact step.elim
    | some env3 =>
      rw [hbd] at step
      have en3 : EnvR K w3 (wipe σ vs) (wipe3 env vs) := (((en.mono e1).mono0 e2).mono e3).wipe vs
      refine bind_low r3 vs T xs[i] x _ _ env3 hv en3 d3 hbd _ fun σ3 en4 hw => ⟨?_, ?_⟩
      · have ww : ∀ vs' : List Nat, (∀ i ∈ vs', i ∈ vs) → wipe (wipe σ vs) vs' = wipe σ vs := by
          intro vs'
          induction vs' with
          | nil => intro _; rfl
          | cons v vs' ih =>
            intro hsub
            show (wipe (wipe σ vs) vs').set v none = wipe σ vs
            rw [ih fun i hi => hsub i (List.mem_cons_of_mem _ hi)]
            have : ∀ (vs : List Nat), v ∈ vs → (wipe σ vs).set v none = wipe σ vs := by
              intro vs
              induction vs with
              | nil => intro h; cases h
              | cons u vs ih =>
                intro hm
                show ((wipe σ vs).set u none).set v none = (wipe σ vs).set u none
                by_cases e : v = u
                · subst e
                  rw [List.set_set]
                · have hm' : v ∈ vs := (List.mem_cons.mp hm).resolve_left e
                  rw [List.set_comm _ _ (Ne.symm e), ih hm']
            exact this vs (hsub v List.mem_cons_self)
        exact hw.trans (ww vs fun _ h => h)
      · refine ⟨w3, env3, s, _, r3, en4, step, fun w4 b H4 s4 e4 r4 t4 => ?_⟩
        obtain ⟨al4, h4, pn4⟩ := w4
        have hpn : pn4 = (D, .lst ys) :: w1.pn := by
          have a := e4.pn
          have b := e3.pn
          exact a.trans b
        subst hpn
        have e24 : Ex0 w1 ⟨al4, h4, (D, .lst ys) :: w1.pn⟩ := (e2.trans e3.toEx0).trans e4.toEx0
        cases b with
        | false =>
          rw [if_neg Bool.false_ne_true] at t4 ⊢
          exact ⟨al4, h4, s4, acc, ys, e24, r4, dpAll_mono (e3.h.trans e4.h) acc ys da, by omega, t4⟩
        | true =>
          rw [if_pos rfl] at t4 ⊢
          refine ⟨_, env3, s4, _, r4, en4.mono e4, t4, fun w5 v d H5 s5 e5 r5 p5 t5 => ?_⟩
          obtain ⟨al5, h5, pn5⟩ := w5
          have hpn : pn5 = (D, .lst ys) :: w1.pn := e5.pn
          subst hpn
          cases d with
          | loc n | exc n => exact t5.elim
          | p d =>
            have hl := DpAll.length da
            refine ⟨ys, (r5.pin D _ List.mem_cons_self).1, by omega, al5, h5, s5, acc ++ [d], ys ++ [v], ?_, r5.repin, ?_, ?_, t5⟩
            · exact ⟨(e24.trans e5.toEx0).al, (e24.trans e5.toEx0).h⟩
            · exact DpAll.append (dpAll_mono ((e3.h.trans e4.h).trans e5.h) acc ys da) (.cons p5 .nil)
            · rw [List.length_append, List.length_singleton]
              omega
  · have e' : i = xs.length := by omega
    subst e'
    obtain ⟨r3, hdn, hup⟩ := r2.unpin
    refine .inl ⟨hstop _ (Nat.le_refl _), ?_⟩
    rw [← hup]
    refine q ⟨al, h, w1.pn⟩ D ys acc _ s (e1.trans ⟨⟨e2.al, e2.h⟩, rfl⟩) r3 hdn da ?_ (hd acc s h2)
    omega
section
variable {X : Cx} {elt tg iter : Expr} {ifs : List Expr} {scope : Scope} {own : List (Str × Nat)} {pos : Pos} {ti : TI3} {T : Tg} {tt : TT3} {te : TE3}
abbrev QTs (X : Cx) (ifs : List Expr) (t : TT3) : Prop := PTs X ifs (lowT X.K t)
theorem qts_nil : QTs X [] tYes3 := ⟨fun pins s σ H Q I ⟨w, env, S, Q3, r0, en, t, q⟩ => pts_nil.run pins s σ H Q I (q w true H S (Ex3.refl w) r0 t)⟩
theorem qts_one {c : Expr} {t : TT3} (h : QT X c t) : QTs X [c] t := pts_one h
theorem qn_lc (hc : X.calm = true) (hN : X.N.Nodup) (hi : QI X tg iter ti) (ok : BlkOk X.N X.env.scope scope own)
    (hg : ∀ (s : Shared) (H : Hp) (C : Addr) (cl : List (Str × Addr)) (fp : List Addr), QB (X.blk s H scope (compEnvC scope cl C X.env) fp) tg T) (ht : ∀ (s : Shared) (H : Hp) (C : Addr) (cl : List (Str × Addr)) (fp : List Addr), QTs (X.blk s H scope (compEnvC scope cl C X.env) fp) ifs tt)
    (he : ∀ (s : Shared) (H : Hp) (C : Addr) (cl : List (Str × Addr)) (fp : List Addr), QE (X.blk s H scope (compEnvC scope cl C X.env) fp) elt te) (hv : ∀ i ∈ T.slots, i ∈ own.map (·.2) := by decide) (hs : ∀ x, foldedSetIterable iter X.env x = pure x := by intro _; rfl) :
    QN X (.ListComp elt [⟨tg, iter, ifs, 0⟩] scope pos) (tLc3 ti T tt te (own.map (·.2))) := (pe_lc hc hN hi ok hg ht he hs).imp fun σ H R h => lc_low hv h
/-- name = [..], the name a local -/
theorem qs_setLcP {i : Nat} {y : Str} {py spos : Pos} (hc : X.calm = true) (hN : X.N.Nodup) (hy : X.N[i]? = some y) (hyl : X.env.scope.names.lookup y = some .local)
    (hsw : swapsWith (.ListComp elt [⟨tg, iter, ifs, 0⟩] scope pos) (some (.Name y py)) spos.line X.env = pure true) (hi : QI X tg iter ti) (ok : BlkOk X.N X.env.scope scope own)
    (hg : ∀ (s : Shared) (H : Hp) (C : Addr) (cl : List (Str × Addr)) (fp : List Addr), QB (X.blk s H scope (compEnvC scope cl C X.env) fp) tg T) (ht : ∀ (s : Shared) (H : Hp) (C : Addr) (cl : List (Str × Addr)) (fp : List Addr), QTs (X.blk s H scope (compEnvC scope cl C X.env) fp) ifs tt)
    (he : ∀ (s : Shared) (H : Hp) (C : Addr) (cl : List (Str × Addr)) (fp : List Addr), QE (X.blk s H scope (compEnvC scope cl C X.env) fp) elt te) (hv : ∀ i ∈ T.slots, i ∈ own.map (·.2) := by decide) (hs : ∀ x, foldedSetIterable iter X.env x = pure x := by intro _; rfl) :
    QS X (.Assign [.Name y py] (.ListComp elt [⟨tg, iter, ifs, 0⟩] scope pos) spos) (tSet3 i (tPure (tLc3 ti T tt te (own.map (·.2))))) := (ps_setLc hc hN hy hyl hsw hi ok hg ht he hs).imp fun D σ H ⟨w, env, S, D3, r0, en, t, q⟩ => by
  refine lc_low (R := fun x H1 => gName i x σ H1 D.nx) hv ⟨w, env, S, _, r0, en, t, fun w1 p xs ds H1 S1 e1 r1 hn ha hz t1 => ?_⟩
  have hl := DpAll.length ha
  obtain ⟨r2, e2⟩ := r1.frz (u := .lst xs) hn (by show xs.length ≤ _; rw [hl]; exact hz)
  exact q.nx _ _ _ _ S1 (e1.trans e2) r2 (((en.mono e1).mono e2).set (d := .p (.list ds)) i (Dp.lst (.inl (.inl upd_same)) (dpAll_mono e2.h ds xs ha))) t1
theorem qs_setLcO {i : Nat} {y : Str} {py spos : Pos} (hc : X.calm = true) (hN : X.N.Nodup) (hy : X.N[i]? = some y) (hyl : X.env.scope.names.lookup y = some .local)
    (hsw : swapsWith (.ListComp elt [⟨tg, iter, ifs, 0⟩] scope pos) (some (.Name y py)) spos.line X.env = pure true) (hi : QI X tg iter ti) (ok : BlkOk X.N X.env.scope scope own)
    (hg : ∀ (s : Shared) (H : Hp) (C : Addr) (cl : List (Str × Addr)) (fp : List Addr), QB (X.blk s H scope (compEnvC scope cl C X.env) fp) tg T) (ht : ∀ (s : Shared) (H : Hp) (C : Addr) (cl : List (Str × Addr)) (fp : List Addr), QTs (X.blk s H scope (compEnvC scope cl C X.env) fp) ifs tt)
    (he : ∀ (s : Shared) (H : Hp) (C : Addr) (cl : List (Str × Addr)) (fp : List Addr), QE (X.blk s H scope (compEnvC scope cl C X.env) fp) elt te) (hv : ∀ i ∈ T.slots, i ∈ own.map (·.2) := by decide) (hs : ∀ x, foldedSetIterable iter X.env x = pure x := by intro _; rfl) :
    QS X (.Assign [.Name y py] (.ListComp elt [⟨tg, iter, ifs, 0⟩] scope pos) spos) (tSet3 i (tOwn (tLc3 ti T tt te (own.map (·.2))))) := (ps_setLc hc hN hy hyl hsw hi ok hg ht he hs).imp fun D σ H ⟨w, env, S, D3, r0, en, t, q⟩ => by
  refine lc_low (R := fun x H1 => gName i x σ H1 D.nx) hv ⟨w, env, S, _, r0, en, t, fun w1 p xs ds H1 S1 e1 r1 hn ha hz t1 => ?_⟩
  obtain ⟨r2, e2⟩ := r1.push (u := .lst xs) (o := .lst ds) hn ⟨xs, rfl, ha, hz⟩
  refine q.nx _ _ _ _ _ (e1.trans e2) r2 (((en.mono e1).mono e2).set (d := .loc S1.length) i ⟨p, ?_, rfl⟩) t1
  show (w1.al ++ [p])[S1.length]? = some p
  rw [← r1.len, List.getElem?_append_right (Nat.le_refl _)]
  simp
end
end L3

namespace L3
open PySem PySem.Spec PyProof.Rows L2
/-! ### defs -/
abbrev Sp3 := List D → S3 → K3 → Prop
/-- a def that keeps a promise over trees -/
structure Ok3 (P : Program) (w : World) (K : PySem.W.Frag) (mg : Str → Option Value) (base : Heap) (k : Nat) (x : Str) (sp : Sp3) : Prop where
  ex : ∃ f fd ps, mg x = some (.ref f) ∧ PySem.W.keepIn K (.ref f) = true ∧ Binds K fd ps [] ∧ FnOk P w K mg base CX0 k f fd ps (fun vs H Q _ => lowC K sp vs H Q)
section
variable {X : Cx} {e : Expr} {es : List Expr} {tr : TA3} {p pos : Pos} {x : Str} {k : Nat} {sp : Sp3}
theorem qe_call (F : Ok3 X.prog X.w X.K X.mg X.base k x sp) (hr : Room k X.A) (hg : Gl X x) (ha : QA X (e :: es) tr) (hdb : (x == ("__debug__" : Str)) = false := by decide) (he : starEach (e :: es) X.env = (false, eval e X.env) :: starEach es X.env := by rfl) (hpl : (backTo pos (starEach es X.env)).any (·.1) = false := by rfl) :
    QE X (.Call (.Name x p) (e :: es) [] pos) (tCB3 sp tr) := by
  obtain ⟨f, fd, ps, hm, kp, b, ok⟩ := F.ex
  refine (pe_call ok hr hg hm kp b .nil pass0 ha hdb he hpl).imp fun σ H R h => ?_
  show lowA X.K tr σ H fun vs H1 => lowC X.K sp (vs ++ []) H1 R
  have := lowCB h
  obtain ⟨w, env, S, Q, r0, en, t, q⟩ := this
  refine ⟨w, env, S, Q, r0, en, t, fun w1 vs ds H1 S1 e1 r1 p1 t1 => ?_⟩
  show lowC X.K sp (vs ++ []) H1 R
  rw [List.append_nil]
  exact q w1 vs ds H1 S1 e1 r1 p1 t1
end
/-- a def's answer: the store's last objects (those made within) are forgotten, but for what is handed back -/
def Fin3 (S : S3) (Q : K3) : K3 := fun d S' => ∃ L, S.length ≤ L ∧ below L d ∧ Q d (S'.take L)
theorem fin_p {S : S3} {Q : K3} {d : PyData} (h : Q (.p d) S) : Fin3 S Q (.p d) S := ⟨S.length, Nat.le_refl _, trivial, by rw [List.take_length]; exact h⟩
theorem fin_app {S T : S3} {Q : K3} {d : PyData} (h : Q (.p d) S) : Fin3 S Q (.p d) (S ++ T) := ⟨S.length, Nat.le_refl _, trivial, by rw [List.take_left]; exact h⟩
theorem fin_of {S S' : S3} {Q : K3} {d : PyData} (e : S'.take S.length = S) (h : Q (.p d) S) : Fin3 S Q (.p d) S' := ⟨S.length, Nat.le_refl _, trivial, by rw [e]; exact h⟩
theorem fin_all {S S' : S3} {Q : K3} {d : D} (hl : S.length ≤ S'.length) (hb : below S'.length d) (h : Q d S') : Fin3 S Q d S' := ⟨S'.length, hl, hb, by rw [List.take_length]; exact h⟩
theorem fin_new {S : S3} {o : Option O3} {Q : K3} (h : Q (.loc S.length) (S ++ [o])) : Fin3 S Q (.loc S.length) (S ++ [o]) := fin_all (by simp) (by show _ < _; simp) h
def env0 (n : Nat) (ds : List D) : E3 := ds.map some ++ List.replicate (n - ds.length) none
theorem at3_app : ∀ (ds : List D) (r : E3) (i : Nat), at3 (ds.map some ++ r) i = if i < ds.length then ds[i]? else at3 r (i - ds.length)
  | [], r, i => by simp [at3]
  | d :: ds, r, 0 => by simp [at3]
  | d :: ds, r, i + 1 => by
    show at3 (ds.map some ++ r) i = _
    rw [at3_app ds r i]
    simp
theorem at3_none : ∀ (n i : Nat), at3 (List.replicate n none) i = none
  | 0, _ => rfl
  | n + 1, 0 => rfl
  | n + 1, i + 1 => at3_none n i
theorem repDs_get {K : PySem.W.Frag} {w : W3} : ∀ {vs : List V} {ds : List D} {i : Nat} {d : D}, RepDs K w vs ds → ds[i]? = some d → ∃ v, vs[i]? = some v ∧ RepD K w v d
  | v :: vs, d :: ds, 0, e, h, q => by simp at q; subst q; exact ⟨v, rfl, h.1⟩
  | v :: vs, d :: ds, i + 1, e, h, q => by
    obtain ⟨u, h1, h2⟩ := repDs_get (i := i) h.2 (by simpa using q)
    exact ⟨u, by simpa using h1, h2⟩
  | [], [], i, e, h, q => by simp at q
  | [], _ :: _, _, _, h, _ => h.elim
  | _ :: _, [], _, _, h, _ => h.elim
theorem env_start {K : PySem.W.Frag} {w : W3} {vs : List V} {ds : List D} {N : List Str} (h : RepDs K w vs ds) : EnvR K w (L2.start N vs) (env0 N.length ds) := by
  have hl := RepDs.length h
  unfold L2.start env0
  refine ⟨by simp [hl], fun i d q => ?_⟩
  rw [at3_app] at q
  by_cases hi : i < ds.length
  · rw [if_pos hi] at q
    obtain ⟨v, h1, h2⟩ := repDs_get h q
    refine ⟨v, ?_, h2⟩
    rw [List.getElem?_append_left (by simp; omega), List.getElem?_map, h1]
    rfl
  · rw [if_neg hi, at3_none] at q
    cases q
section
variable {P : Program} {w : World} {K : PySem.W.Frag} {mg : Str → Option Value} {base : Heap}
/-- THE RULE for a def -/
theorem Ok3.fnOk {x : Str} {st : Stmt} {f : Addr} {fd : FuncData} {N ps : List Str} {k : Nat} {sp : Sp3} {t3 : TS3} (F : Fun K x x st f fd) (b : Binds K fd ps []) (sc : FnScope N ps (defScope st))
    (hlen : ∀ ds S Q, sp ds S Q → ds.length = ps.length)
    (body : ∀ (cdv : Value) (A : Around) (outer : List Env) (s : Shared) (H : Hp) (E : XK), Room k (A.deeper (envOfC x (defScope st) s.heap.objs.size f cdv)) → QSs (cxOf CX0 P w K mg base N x (defScope st) f cdv A outer s H E).nox (defBody st) t3)
    (read : ∀ ds S Q, sp ds S Q → t3 { nx := fun _ S' => Fin3 S Q (.p .none) S', rt := Fin3 S Q } (env0 N.length ds) S) : FnOk P w K mg base CX0 (k + 1) f fd ps (fun vs H Q _ => lowC K sp vs H Q) := by
  refine F.ok sc (fun vs H Q E h => ?_) (fun cdv A outer s H vs Q E hr h => ?_)
  · obtain ⟨w3, S, ds, Q3, r, rd, hs, q⟩ := h
    rw [RepDs.length rd]
    exact hlen ds S Q3 hs
  · obtain ⟨w3, S, ds, Q3, r, rd, hs, q⟩ := h
    refine ⟨_, body cdv A outer s H E hr, ?_⟩
    have fin : ∀ (w4 : W3) (v : V) (d : D) (H' : Hp) (S' : S3), Ex3 w3 w4 → Rel3 K w4 H' S' → RepD K w4 v d → Fin3 S Q3 d S' → Q v H' := fun w4 v d H' S' e4 r4 p4 ⟨L, hL, hb, h4⟩ => by
      refine q ⟨w4.al.take L, w4.h, w4.pn⟩ v d H' (S'.take L) ⟨⟨?_, e4.h⟩, e4.pn⟩ (r4.shrink L) ?_ h4
      · obtain ⟨t, ht⟩ := e4.al
        refine ⟨t.take (L - w3.al.length), ?_⟩
        show w4.al.take L = _
        rw [ht, List.take_append, List.take_of_length_le (by rw [r.len]; exact hL)]
      · cases d with
        | p d => exact p4
        | exc c => exact p4
        | loc m =>
          obtain ⟨a, h5, h6⟩ := p4
          exact ⟨a, by show (w4.al.take L)[m]? = _; rw [List.getElem?_take_of_lt hb]; exact h5, h6⟩
    exact ⟨w3, _, S, _, r, env_start rd, read ds S Q3 hs, ⟨fun w4 σ' H' env' S' e4 r4 _ h4 => fin w4 .non (.p .none) H' S' e4 r4 rep_non h4, fun w4 v d H' S' e4 r4 p4 h4 => fin w4 v d H' S' e4 r4 p4 h4,
      fun _ _ _ _ _ _ _ _ h => h.elim, fun _ _ _ _ _ _ _ _ h => h.elim⟩⟩
theorem Ok3.mk' {x : Str} {st : Stmt} {f : Addr} {fd : FuncData} {N ps : List Str} {k : Nat} {sp : Sp3} {t3 : TS3} (F : Fun K x x st f fd) (hm : mg x = some (.ref f)) (b : Binds K fd ps []) (sc : FnScope N ps (defScope st))
    (hlen : ∀ ds S Q, sp ds S Q → ds.length = ps.length)
    (body : ∀ (cdv : Value) (A : Around) (outer : List Env) (s : Shared) (H : Hp) (E : XK), Room k (A.deeper (envOfC x (defScope st) s.heap.objs.size f cdv)) → QSs (cxOf CX0 P w K mg base N x (defScope st) f cdv A outer s H E).nox (defBody st) t3)
    (read : ∀ ds S Q, sp ds S Q → t3 { nx := fun _ S' => Fin3 S Q (.p .none) S', rt := Fin3 S Q } (env0 N.length ds) S) : Ok3 P w K mg base (k + 1) x sp :=
  ⟨f, fd, ps, hm, F.kp, b, Ok3.fnOk F b sc hlen body read⟩
end

/-! ### operators -/
theorem opq {X : Cx} {f : Value → Value → Sem Value} {r2 : R2} {r : R3} (h : OpR X f r2) (i : ∀ w S d e (x y : V) (H : Hp) (Q : K3) (R : VK), Rel3 X.K w H S → RepD X.K w x d → RepD X.K w y e → r d e S Q → EndE X.K w Q R → r2 x y H R) : OQ X f r :=
  OpR.imp h fun x y H R ⟨w, S, d, e, Q, r0, p1, p2, t, q⟩ => i w S d e x y H Q R r0 p1 p2 t q
theorem callq {X : Cx} {f : Value} {r2 : List V → Hp → VK → Prop} {r : C3} (h : CallR X f r2) (i : ∀ w S ds (xs : List V) (H : Hp) (Q : K3) (R : VK), Rel3 X.K w H S → RepDs X.K w xs ds → r ds S Q → EndE X.K w Q R → r2 xs H R) : CQ X f r :=
  CallR.imp h fun xs H R ⟨w, S, ds, Q, r0, p1, t, q⟩ => i w S ds xs H Q R r0 p1 t q
section
variable {X : Cx} {K : PySem.W.Frag} {w : W3} {H : Hp} {S : S3} {Q : K3} {R : VK}
theorem EndE.int (q : EndE K w Q R) (r : Rel3 K w H S) {i : Int} (h : Q (.p (.int i)) S) : R (.int i) H := q w _ _ H S (Ex3.refl w) r rep_int h
theorem EndE.bl (q : EndE K w Q R) (r : Rel3 K w H S) {i : Bool} (h : Q (.p (.bool i)) S) : R (.bl i) H := q w _ _ H S (Ex3.refl w) r rep_bl h
theorem EndE.str (q : EndE K w Q R) (r : Rel3 K w H S) {i : Str} (h : Q (.p (.str i)) S) : R (.str i) H := q w _ _ H S (Ex3.refl w) r rep_str h
theorem EndE.old (q : EndE K w Q R) (r : Rel3 K w H S) {v : V} {d : D} (hd : RepD K w v d) (h : Q d S) : R v H := q w _ _ H S (Ex3.refl w) r hd h
theorem EndE.tup (q : EndE K w Q R) (r : Rel3 K w H S) {vs : List V} {ds : List PyData} (ha : DpAll K w.h vs ds) (hz : ds.length ≤ sizeLine) (h : Q (.p (.tuple ds)) S) : ∀ p, H p = none → R (.ref p) (upd H p (.tup vs)) := fun p hn => by
  obtain ⟨r2, e2⟩ := r.frz (u := .tup vs) hn (by show vs.length ≤ _; rw [DpAll.length ha]; exact hz)
  exact q _ (.ref p) (.p (.tuple ds)) _ S e2 r2 (Dp.tup (.inl (.inl upd_same)) (dpAll_mono e2.h ds vs ha)) h
theorem EndE.lst (q : EndE K w Q R) (r : Rel3 K w H S) {vs : List V} {ds : List PyData} (ha : DpAll K w.h vs ds) (hz : ds.length ≤ sizeLine) (h : Q (.p (.list ds)) S) : ∀ p, H p = none → R (.ref p) (upd H p (.lst vs)) := fun p hn => by
  obtain ⟨r2, e2⟩ := r.frz (u := .lst vs) hn (by show vs.length ≤ _; rw [DpAll.length ha]; exact hz)
  exact q _ (.ref p) (.p (.list ds)) _ S e2 r2 (Dp.lst (.inl (.inl upd_same)) (dpAll_mono e2.h ds vs ha)) h
end
/-- ints in, an int out -/
def rInt (C : Int → Int → Prop) (g : Int → Int → PyData) : R3 := fun x y S Q => match x, y with
  | .p (.int i), .p (.int j) => C i j ∧ Q (.p (g i j)) S
  | _, _ => False
def rInt0 (g : Int → Int → PyData) : R3 := fun x y S Q => match x, y with
  | .p (.int i), .p (.int j) => Q (.p (g i j)) S
  | _, _ => False
theorem rint_inv {C : Int → Int → Prop} {g : Int → Int → PyData} {x y : D} {S : S3} {Q : K3} (h : rInt C g x y S Q) : ∃ i j, x = .p (.int i) ∧ y = .p (.int j) ∧ C i j ∧ Q (.p (g i j)) S := by
  unfold rInt at h
  split at h
  · exact ⟨_, _, rfl, rfl, h⟩
  · exact h.elim
theorem rint0_inv {g : Int → Int → PyData} {x y : D} {S : S3} {Q : K3} (h : rInt0 g x y S Q) : ∃ i j, x = .p (.int i) ∧ y = .p (.int j) ∧ Q (.p (g i j)) S := by
  unfold rInt0 at h
  split at h
  · exact ⟨_, _, rfl, rfl, h⟩
  · exact h.elim
section
variable {X : Cx}
theorem oq_int {f : Value → Value → Sem Value} {C : Int → Int → Prop} {g : Int → Int → Int} (h : OpR X f (rI C fun i j => .int (g i j))) : OQ X f (rInt C fun i j => .int (g i j)) := opq h fun w S d e x y H Q R r0 p1 p2 t q => by
  obtain ⟨i, j, rfl, rfl, hc, t⟩ := rint_inv t
  exact ⟨i, j, dp_int p1, dp_int p2, hc, q.int r0 t⟩
theorem oq_int0 {f : Value → Value → Sem Value} {g : Int → Int → Int} (h : OpR X f (rI0 fun i j => .int (g i j))) : OQ X f (rInt0 fun i j => .int (g i j)) := opq h fun w S d e x y H Q R r0 p1 p2 t q => by
  obtain ⟨i, j, rfl, rfl, t⟩ := rint0_inv t
  exact ⟨i, j, dp_int p1, dp_int p2, q.int r0 t⟩
theorem oq_bool0 {f : Value → Value → Sem Value} {g : Int → Int → Bool} (h : OpR X f (rI0 fun i j => .bl (g i j))) : OQ X f (rInt0 fun i j => .bool (g i j)) := opq h fun w S d e x y H Q R r0 p1 p2 t q => by
  obtain ⟨i, j, rfl, rfl, t⟩ := rint0_inv t
  exact ⟨i, j, dp_int p1, dp_int p2, q.bl r0 t⟩
/-! #### sums -/
theorem op_catL : OpR X (binaryOp .Add) (fun x y H Q => ∃ a b xs ys, x = .ref a ∧ y = .ref b ∧ SqL X.K H a xs ∧ SqL X.K H b ys ∧ xs.length + ys.length ≤ sizeLine ∧ ∀ p, H p = none → Q (.ref p) (upd H p (.lst (xs ++ ys)))) := by
  intro pins s σ H x y v u Q I rx ry h
  obtain ⟨l, b, xs, zs, rfl, rfl, hH, hB, hz, q⟩ := h
  cases rx
  cases ry
  obtain ⟨its, r, p1, z1⟩ := I.list hH
  obtain ⟨its2, r2, p2, z2⟩ := I.list hB
  have hl := r.length
  have hl2 := r2.length
  obtain ⟨⟨cls, dd, data, sl⟩, ho, hc, n, hd⟩ := id p1.isList
  obtain ⟨⟨cls2, dd2, data2, sl2⟩, ho2, hc2, n2, hd2⟩ := id p2.isList
  simp only at hc hd hc2 hd2
  subst hc hd hc2 hd2
  refine PySem.concat_meets ⟨_, ho, rfl⟩ ⟨_, ho2, rfl⟩ noFill_list_add seq_list_add PySem.F.slot_list_add PySem.F.entry_list_add (PySem.F.args_list_add_2 _ _) (list_addW l b its.toArray its2.toArray n n2 dd dd2 sl sl2 (by simp; omega)) ⟨ho, ho2, ?_⟩
  have ea : its.toArray ++ its2.toArray = (its ++ its2).toArray := by simp
  rw [ea]
  have hn : H s.heap.objs.size = none := I.hok.fresh (Nat.le_refl _)
  exact ⟨.ref s.heap.objs.size, _, I.laid (t' := s.toks) (o := .lst (xs ++ zs)) (fun b ob q => Heap.get?_push_of_some _ q) (Nat.le_refl _) ⟨by rw [List.length_append]; exact hz, _, _, r.append r2, Heap.get?_push_size _ rfl⟩, rfl, q _ hn⟩
end
/-- the items of a list: as it stands for ever, or of the store -/
def lst3 (S : S3) : D → Option (List PyData)
  | .p (.list ds) => some ds
  | .loc n => match S[n]? with
    | some (some (.lst ds)) => some ds
    | _ => none
  | _ => none
theorem lst3_low {K : PySem.W.Frag} {w : W3} {H : Hp} {S : S3} {v : V} {d : D} {ds : List PyData} (r : Rel3 K w H S) (p : RepD K w v d) (h : lst3 S d = some ds) : ∃ a xs, v = .ref a ∧ SqL K H a xs ∧ DpAll K w.h xs ds ∧ ds.length ≤ sizeLine := by
  unfold lst3 at h
  split at h
  · cases h
    obtain ⟨a, xs, rfl, hq, ha⟩ := dp_list_ref p
    exact ⟨a, xs, rfl, L2.Same.seq r.sub hq, ha, len_list r p⟩
  · rename_i n
    split at h
    · rename_i es hs
      cases h
      obtain ⟨a, ha, rfl⟩ := p
      obtain ⟨_, u, hu, xs, rfl, hd, hz⟩ := r.live n a _ ha hs
      exact ⟨a, xs, rfl, .inl (.inl hu), hd, hz⟩
    · cases h
  · cases h
/-- the items of a list or a tuple -/
def seq3 (S : S3) : D → Option (List PyData)
  | .p (.tuple ds) => some ds
  | d => lst3 S d
theorem seq3_low {K : PySem.W.Frag} {w : W3} {H : Hp} {S : S3} {v : V} {d : D} {ds : List PyData} (r : Rel3 K w H S) (p : RepD K w v d) (h : seq3 S d = some ds) : ∃ a xs, v = .ref a ∧ (SqL K H a xs ∨ SqT K H a xs) ∧ DpAll K w.h xs ds ∧ ds.length ≤ sizeLine := by
  unfold seq3 at h
  split at h
  · cases h
    obtain ⟨a, xs, rfl, hq, ha⟩ := dp_tup_ref p
    exact ⟨a, xs, rfl, .inr (Same.sqT r.sub hq), ha, len_tup r p⟩
  · obtain ⟨a, xs, h1, h2, h3⟩ := lst3_low r p h
    exact ⟨a, xs, h1, .inl h2, h3⟩
def rAdd3 : R3 := fun x y S Q => match x, y with
  | .p (.int i), .p (.int j) => Q (.p (.int (i + j))) S
  | .p (.tuple a), .p (.tuple b) => a.length + b.length ≤ 16777216 ∧ Q (.p (.tuple (a ++ b))) S
  | .p (.str a), .p (.str b) => a.length + b.length ≤ 16777216 ∧ Q (.p (.str (a ++ b))) S
  | a, b => match lst3 S a, lst3 S b with
    | some ds, some es => ds.length + es.length ≤ 16777216 ∧ Q (.p (.list (ds ++ es))) S
    | _, _ => False
section
variable {X : Cx}
theorem oq_add : OQ X (binaryOp .Add) rAdd3 := opq (op_add.or (op_catA.or (op_add_str.or op_catL))) fun w S d e x y H Q R r0 p1 p2 t q => by
  have hz : sizeLine = 16777216 := sizeLine_eq
  unfold rAdd3 at t
  split at t
  · exact .inl ⟨_, _, dp_int p1, dp_int p2, q.int r0 t⟩
  · rename_i a b
    refine .inr (.inl ?_)
    obtain ⟨l, xs, rfl, hq, ha⟩ := dp_tup_ref p1
    obtain ⟨m, ys, rfl, hq2, ha2⟩ := dp_tup_ref p2
    have hl := DpAll.length ha
    have hl2 := DpAll.length ha2
    refine ⟨l, m, xs, ys, rfl, rfl, Same.sqT r0.sub hq, Same.sqT r0.sub hq2, by omega, fun z => ?_, fun _ z => ?_, fun _ _ => q.tup r0 (DpAll.append ha ha2) (by rw [List.length_append]; omega) t.2⟩
    · subst z
      cases ha
      exact q.old r0 p2 t.2
    · subst z
      cases ha2
      have t2 := t.2
      rw [List.append_nil] at t2
      exact q.old r0 p1 t2
  · exact .inr (.inr (.inl ⟨_, _, dp_str p1, dp_str p2, by omega, q.str r0 t.2⟩))
  · split at t
    · rename_i ds es h1 h2
      obtain ⟨l, xs, rfl, hq, ha, _⟩ := lst3_low r0 p1 h1
      obtain ⟨m, ys, rfl, hq2, ha2, _⟩ := lst3_low r0 p2 h2
      have hl := DpAll.length ha
      have hl2 := DpAll.length ha2
      exact .inr (.inr (.inr ⟨l, m, xs, ys, rfl, rfl, hq, hq2, by omega, q.lst r0 (DpAll.append ha ha2) (by rw [List.length_append]; omega) t.2⟩))
    · exact t.elim
/-- a product of ints: one of them below 2 ^ 64, or both together below a million bits -/
def MulOk (i j : Int) : Prop := (-18446744073709551616 < i ∧ i < 18446744073709551616) ∨ (-18446744073709551616 < j ∧ j < 18446744073709551616) ∨ CMulW i j
def DivOk (_ j : Int) : Prop := 0 < j ∧ (j < 18446744073709551616 ∨ j.natAbs.log2 < 9000)
def PowOk (i j : Int) : Prop := 0 ≤ j ∧ j ≤ 1000000 ∧ -18446744073709551616 < i ∧ i < 18446744073709551616
def rSub3 : R3 := rInt0 fun i j => .int (i - j)
def rMul3 : R3 := rInt MulOk fun i j => .int (i * j)
def rMod3 : R3 := rInt (fun _ j => 0 < j) fun i j => .int (i % j)
def rDiv3 : R3 := rInt DivOk fun i j => .int (i / j)
def rPow3 : R3 := rInt PowOk fun i j => .int (i ^ j.toNat)
theorem oq_sub : OQ X (binaryOp .Sub) rSub3 := oq_int0 op_sub
theorem oq_mul : OQ X (binaryOp .Mult) rMul3 := opq (op_mul.or op_mulW) fun w S d e x y H Q R r0 p1 p2 t q => by
  obtain ⟨i, j, rfl, rfl, hc, t⟩ := rint_inv t
  rcases hc with hc | hc | hc
  · exact .inl ⟨i, j, dp_int p1, dp_int p2, .inl (by omega), q.int r0 t⟩
  · exact .inl ⟨i, j, dp_int p1, dp_int p2, .inr (by omega), q.int r0 t⟩
  · exact .inr ⟨i, j, dp_int p1, dp_int p2, hc, q.int r0 t⟩
theorem oq_mod : OQ X (binaryOp .Mod) rMod3 := oq_int op_mod
theorem DivOk.log {i j : Int} (h : DivOk i j) : CDivW i j := by
  rcases h with ⟨h0, hc | hc⟩
  · refine wide_div (b := 64) h0 ?_ (by decide) (by decide)
    omega
  · exact ⟨h0, hc⟩
theorem oq_div : OQ X (binaryOp .FloorDiv) rDiv3 := opq op_fdivW fun w S d e x y H Q R r0 p1 p2 t q => by
  obtain ⟨i, j, rfl, rfl, hc, t⟩ := rint_inv t
  exact ⟨i, j, dp_int p1, dp_int p2, hc.log, q.int r0 t⟩
theorem oq_pow : OQ X (binaryOp .Pow) rPow3 := opq op_pow fun w S d e x y H Q R r0 p1 p2 t q => by
  obtain ⟨i, j, rfl, rfl, ⟨h0, h1, h2, h3⟩, t⟩ := rint_inv t
  exact ⟨i, j, dp_int p1, dp_int p2, ⟨h0, h1, by omega⟩, q.int r0 t⟩
def rLt3 : R3 := rInt0 fun i j => .bool (decide (i < j))
def rLe3 : R3 := rInt0 fun i j => .bool (decide (i ≤ j))
def rGt3 : R3 := rInt0 fun i j => .bool (decide (j < i))
def rGe3 : R3 := rInt0 fun i j => .bool (decide (j ≤ i))
theorem oq_lt : OQ X (compareOp .Lt) rLt3 := oq_bool0 op_lt
theorem oq_le : OQ X (compareOp .LtE) rLe3 := oq_bool0 op_le
theorem oq_gt : OQ X (compareOp .Gt) rGt3 := oq_bool0 op_gt
theorem oq_ge : OQ X (compareOp .GtE) rGe3 := oq_bool0 op_ge
/-- == of data -/
def rEq3 : R3 := fun x y S Q => match x, y with
  | .p d, .p e => (SeqAt.shaped d = true ∧ SeqAt.shaped e = true) ∧ Q (.p (.bool (PyData.eqv d e))) S
  | _, _ => False
def rNe3 : R3 := fun x y S Q => match x, y with
  | .p d, .p e => (SeqAt.shaped d = true ∧ SeqAt.shaped e = true) ∧ Q (.p (.bool (!PyData.eqv d e))) S
  | _, _ => False
theorem oq_eq (hu : X.A.units + 64 < cLine) : OQ X (compareOp .Eq) rEq3 := opq (op_eqD hu) fun w S d e x y H Q R r0 p1 p2 t q => by
  unfold rEq3 at t
  split at t
  · exact ⟨_, _, (dp_mono r0.sub _ _ p1).sh t.1.1, (dp_mono r0.sub _ _ p2).sh t.1.2, t.1.1, t.1.2, q.bl r0 t.2⟩
  · exact t.elim
theorem oq_ne (hu : X.A.units + 64 < cLine) : OQ X (compareOp .NotEq) rNe3 := opq (op_neD hu) fun w S d e x y H Q R r0 p1 p2 t q => by
  unfold rNe3 at t
  split at t
  · exact ⟨_, _, (dp_mono r0.sub _ _ p1).sh t.1.1, (dp_mono r0.sub _ _ p2).sh t.1.2, t.1.1, t.1.2, q.bl r0 t.2⟩
  · exact t.elim
def isNon : D → Bool
  | .p .none => true
  | _ => false
theorem isNon_low {K : PySem.W.Frag} {w : W3} {v : V} {d : D} (p : RepD K w v d) : decide (v = .non) = isNon d := by
  cases d with
  | loc n =>
    obtain ⟨a, _, rfl⟩ := p
    rfl
  | exc c =>
    obtain ⟨a, _, _, rfl, _⟩ := p
    rfl
  | p d =>
    have p' : Dp K w.h v d := p
    cases p' <;> rfl
def rIs3 : R3 := fun x y S Q => match y with
  | .p .none => Q (.p (.bool (isNon x))) S
  | .p (.bool b) => match x with
    | .p (.bool a) => Q (.p (.bool (a == b))) S
    | _ => False
  | _ => False
def rIsNot3 : R3 := fun x y S Q => match y with
  | .p .none => Q (.p (.bool (!isNon x))) S
  | .p (.bool b) => match x with
    | .p (.bool a) => Q (.p (.bool (a != b))) S
    | _ => False
  | _ => False
theorem oq_is : OQ X (compareOp .Is) rIs3 := opq (op_isN.or op_isBl) fun w S d e x y H Q R r0 p1 p2 t q => by
  unfold rIs3 at t
  split at t
  · refine .inl ⟨dp_non p2, ?_⟩
    rw [isNon_low p1]
    exact q.bl r0 t
  · split at t
    · refine .inr ⟨_, _, dp_bl p1, dp_bl p2, ?_⟩
      rename_i a
      rename_i b _
      refine q.bl r0 ?_
      rw [← Bool.beq_eq_decide_eq]
      exact t
    · exact t.elim
  · exact t.elim
theorem oq_isnot : OQ X (compareOp .IsNot) rIsNot3 := opq (op_notN.or op_notBl) fun w S d e x y H Q R r0 p1 p2 t q => by
  unfold rIsNot3 at t
  split at t
  · refine .inl ⟨dp_non p2, ?_⟩
    rw [isNon_low p1]
    exact q.bl r0 t
  · split at t
    · refine .inr ⟨_, _, dp_bl p1, dp_bl p2, ?_⟩
      rename_i a
      rename_i b _
      refine q.bl r0 ?_
      rw [← Bool.beq_eq_decide_eq]
      exact t
    · exact t.elim
  · exact t.elim
/-- xs[i] -/
theorem atI_dp {K : PySem.W.Frag} {h : Hp} {xs : List V} {ds : List PyData} {i : Int} {d : PyData} (ha : DpAll K h xs ds) (e : atI ds i = some d) : ∃ v, atI xs i = some v ∧ Dp K h v d := by
  unfold atI at e ⊢
  rw [DpAll.length ha]
  cases hj : ixN ds.length i with
  | none => rw [hj] at e; cases e
  | some j =>
    rw [hj] at e
    obtain ⟨v, h1, h2⟩ := DpAll.get ha (show ds[j]? = some d from e)
    exact ⟨v, h1, h2⟩
def rIx3 : R3 := fun x y S Q => match y with
  | .p (.int i) => (match x with
    | .p (.str z) => z.length ≤ 16777216 ∧ (match atI z.cps.toList i with
      | some c => Q (.p (.str ⟨#[c]⟩)) S
      | none => False)
    | _ => match seq3 S x with
      | some ds => (match atI ds i with
        | some d => Q (.p d) S
        | none => False)
      | none => False)
  | _ => False
theorem iq_seq : IQ X rIx3 := IxR.imp ix_seq fun x y H R ⟨w, S, d, e, Q, r0, p1, p2, t, q⟩ => by
  have hz : sizeLine = 16777216 := sizeLine_eq
  unfold rIx3 at t
  split at t
  · have hy := dp_int p2
    subst hy
    split at t
    · obtain ⟨hl, t⟩ := t
      split at t
      · rename_i c hc
        exact .inr (.inr ⟨_, _, c, dp_str p1, rfl, by omega, hc, q.str r0 t⟩)
      · exact t.elim
    · split at t
      · rename_i ds h1
        split at t
        rotate_left
        · exact t.elim
        rename_i d' hd
        obtain ⟨a, xs, rfl, hq, ha, _⟩ := seq3_low r0 p1 h1
        obtain ⟨v, h2, h3⟩ := atI_dp ha hd
        rcases hq with hq | hq
        · exact .inl ⟨a, xs, _, v, rfl, rfl, hq, h2, q.old (d := .p d') r0 h3 t⟩
        · exact .inr (.inl ⟨a, xs, _, v, rfl, rfl, hq, h2, q.old (d := .p d') r0 h3 t⟩)
      · exact t.elim
  · exact t.elim
/-! #### built-ins -/
def rLen3 : C3 := fun ds S Q => match ds with
  | [.p (.str z)] => z.length ≤ 16777216 ∧ Q (.p (.int z.length)) S
  | [d] => match seq3 S d with
    | some es => Q (.p (.int es.length)) S
    | none => False
  | _ => False
theorem rds1 {K : PySem.W.Frag} {w : W3} {vs : List V} {d : D} (h : RepDs K w vs [d]) : ∃ v, vs = [v] ∧ RepD K w v d := by
  match vs, h with
  | [v], h => exact ⟨v, rfl, h.1⟩
  | [], h => exact h.elim
  | _ :: _ :: _, h => exact h.2.elim
theorem rds2 {K : PySem.W.Frag} {w : W3} {vs : List V} {d e : D} (h : RepDs K w vs [d, e]) : ∃ v u, vs = [v, u] ∧ RepD K w v d ∧ RepD K w u e := by
  match vs, h with
  | [v, u], h => exact ⟨v, u, rfl, h.1, h.2.1⟩
  | [], h => exact h.elim
  | [_], h => exact h.2.elim
  | _ :: _ :: _ :: _, h => exact h.2.2.elim
theorem cq_len : CQ X (.builtin "len") rLen3 := callq call_len fun w S ds xs H Q R r0 p1 t q => by
  have hz : sizeLine = 16777216 := sizeLine_eq
  unfold rLen3 at t
  split at t
  · obtain ⟨v, rfl, p⟩ := rds1 p1
    have := dp_str p
    subst this
    exact ⟨_, _, rfl, ⟨by omega, rfl⟩, q.int r0 t.2⟩
  · obtain ⟨v, rfl, p⟩ := rds1 p1
    split at t
    · rename_i es h1
      obtain ⟨a, ys, rfl, hq, ha, _⟩ := seq3_low r0 p h1
      have hl := DpAll.length ha
      refine ⟨_, es.length, rfl, ?_, q.int r0 t⟩
      rcases hq with hq | hq
      · exact .inl ⟨ys, hq, hl.symm⟩
      · exact .inr ⟨ys, hq, hl.symm⟩
    · exact t.elim
  · exact t.elim
def rIntOf3 : C3 := fun ds S Q => match ds with
  | [.p (.int i)] => Q (.p (.int i)) S
  | [.p (.bool b)] => Q (.p (.int (if b then 1 else 0))) S
  | _ => False
theorem cq_int : CQ X (.type "int") rIntOf3 := callq call_int1 fun w S ds xs H Q R r0 p1 t q => by
  unfold rIntOf3 at t
  split at t
  · obtain ⟨v, rfl, p⟩ := rds1 p1
    have := dp_int p
    subst this
    exact .inl ⟨_, rfl, q.int r0 t⟩
  · obtain ⟨v, rfl, p⟩ := rds1 p1
    have := dp_bl p
    subst this
    exact .inr ⟨_, rfl, q.int r0 t⟩
  · exact t.elim
def rInt2 (g : Int → Int → Int) : C3 := fun ds S Q => match ds with
  | [.p (.int i), .p (.int j)] => Q (.p (.int (g i j))) S
  | _ => False
theorem cq_max2 (hc : X.calm = true) : CQ X (.builtin "max") (rInt2 fun i j => if j > i then j else i) := callq (call_max2 hc) fun w S ds xs H Q R r0 p1 t q => by
  unfold rInt2 at t
  split at t
  · obtain ⟨v, u, rfl, p, p'⟩ := rds2 p1
    have := dp_int p
    subst this
    have := dp_int p'
    subst this
    exact ⟨_, _, rfl, q.int r0 t⟩
  · exact t.elim
theorem cq_min2 (hc : X.calm = true) : CQ X (.builtin "min") (rInt2 fun i j => if j < i then j else i) := callq (call_min2 hc) fun w S ds xs H Q R r0 p1 t q => by
  unfold rInt2 at t
  split at t
  · obtain ⟨v, u, rfl, p, p'⟩ := rds2 p1
    have := dp_int p
    subst this
    have := dp_int p'
    subst this
    exact ⟨_, _, rfl, q.int r0 t⟩
  · exact t.elim
def rTupOf3 : C3 := fun ds S Q => match ds with
  | [d] => match seq3 S d with
    | some es => Q (.p (.tuple es)) S
    | none => False
  | _ => False
theorem cq_tuple : CQ X (.type "tuple") rTupOf3 := callq call_tuple_of fun w S ds xs H Q R r0 p1 t q => by
  unfold rTupOf3 at t
  split at t
  · obtain ⟨v, rfl, p⟩ := rds1 p1
    split at t
    · rename_i es h1
      unfold seq3 at h1
      split at h1
      · cases h1
        obtain ⟨a, ys, rfl, hq, ha⟩ := dp_tup_ref p
        exact ⟨a, ys, rfl, .inr ⟨Same.sqT r0.sub hq, q.old r0 p t⟩⟩
      · obtain ⟨a, ys, rfl, hq, ha, hz⟩ := lst3_low r0 p h1
        exact ⟨a, ys, rfl, .inl ⟨hq, q.tup r0 ha hz t⟩⟩
    · exact t.elim
  · exact t.elim
/-- isinstance(x, T), T the name of a built-in class -/
def tyOf : PyData → String
  | .none => "NoneType"
  | .bool _ => "bool"
  | .int _ => "int"
  | .str _ => "str"
  | .list _ => "list"
  | .tuple _ => "tuple"
  | .dict _ => "dict"
end
end L3

namespace L3
open PySem PySem.Spec PyProof.Rows L2
/-! ### own lists changed -/
def own3 (S : S3) : D → Option (Nat × List PyData)
  | .loc n => match S[n]? with
    | some (some (.lst ds)) => some (n, ds)
    | _ => none
  | _ => none
theorem own3_low {K : PySem.W.Frag} {w : W3} {H : Hp} {S : S3} {v : V} {d : D} {n : Nat} {ds : List PyData} (r : Rel3 K w H S) (p : RepD K w v d) (h : own3 S d = some (n, ds)) :
    ∃ a xs, v = .ref a ∧ d = .loc n ∧ w.al[n]? = some a ∧ S[n]? = some (some (.lst ds)) ∧ H a = some (.lst xs) ∧ DpAll K w.h xs ds ∧ ds.length ≤ sizeLine := by
  unfold own3 at h
  split at h
  · split at h
    · rename_i es hs
      cases h
      obtain ⟨a, ha, rfl⟩ := p
      obtain ⟨_, u, hu, xs, rfl, hd, hz⟩ := r.live n a _ ha hs
      exact ⟨a, xs, rfl, rfl, ha, hs, hu, hd, hz⟩
    · cases h
  · cases h
/-- o[i] = e -/
def tPut3 (te to ti : TE3) : TS3 := fun D env S => te env S fun v S1 => to env S1 fun o S2 => ti env S2 fun i S3 => match own3 S3 o, i, v with
  | some (n, ds), .p (.int k), .p d => (match ixN ds.length k with
    | some j => D.nx env (S3.set n (some (.lst (ds.set j d))))
    | none => False)
  | _, _, _ => False
section
variable {X : Cx} {o i e : Expr} {to ti te : TE3} {pos pos' apos cpos : Pos}
theorem qs_put (he : QE X e te) (ho : QE X o to) (hi : QE X i ti)
    (ha : ∀ v, assign (.Subscript o i pos') X.env v = (do
      let ov ← holding [v] (eval o X.env)
      let iv ← holding [v, ov] (eval i X.env)
      standAt pos'
      holding [v, ov, iv] (setItem ov iv v)
      release [v, ov, iv] []) := by intro _; rfl) (hs : swapsWithSole [.Subscript o i pos'] e pos.line X.env = pure false := by rfl) (hw : swappedStores [.Subscript o i pos'] e X.env = pure none := by rfl)
    (h1 : (assignEach [.Subscript o i pos'] X.env).map (·.2) = [assign (.Subscript o i pos') X.env] := by rfl) : QS X (.Assign [.Subscript o i pos'] e pos) (tPut3 te to ti) :=
  (ps_asg he (pg_sub ho hi set_list ha) hs hw h1).imp fun D σ H ⟨w, env, S, D3, r0, en, t, q⟩ => by
    refine ⟨w, env, S, _, r0, en, t, fun w1 v d H1 S1 e1 r1 p1 t1 => ?_⟩
    refine ⟨w1, env, S1, _, r1, en.mono e1, t1, fun w2 u c H2 S2 e2 r2 p2 t2 => ?_⟩
    refine ⟨w2, env, S2, _, r2, (en.mono e1).mono e2, t2, fun w3 z b H3 S3 e3 r3 p3 t3 => ?_⟩
    have p2' := p2.mono e3
    have p1' := (p1.mono e2).mono e3
    split at t3
    · rename_i n ds k d' ho'
      split at t3
      rotate_left
      · exact t3.elim
      rename_i j hj
      obtain ⟨a, xs, rfl, rfl, ha, hs, hu, hd, hz⟩ := own3_low r3 p2' ho'
      refine ⟨a, xs, k, j, rfl, dp_int p3, hu, by rw [DpAll.length hd]; exact hj, ?_⟩
      exact q.nx w3 σ _ env _ ((e1.trans e2).trans e3) (r3.put (o' := .lst (ds.set j d')) ha hs ⟨_, rfl, DpAll.set p1' j hd, by rw [List.length_set]; exact hz⟩) (((en.mono e1).mono e2).mono e3) t3
    · exact t3.elim
/-- xs.append(e) -/
def tApp3 (to te : TE3) : TE3 := fun env S Q => to env S fun o S1 => match own3 S1 o with
  | some _ => te env S1 fun v S2 => match own3 S2 o, v with
    | some (n, ds), .p d => ds.length < 16777216 ∧ Q (.p .none) (S2.set n (some (.lst (ds ++ [d]))))
    | _, _ => False
  | none => False
theorem qe_append (ho : QE X o to) (he : QE X e te) (hbase : attributeBase o "append" X.env (eval o X.env) = eval o X.env := by rfl)
    (hfew : ((backTo cpos (starEach [e] X.env)).all (fun x => !x.1) && (backToKw cpos (keywordEach [] X.env)).all (fun x => x.1.isSome)
      && decide (([e] : List Expr).length + ([] : List Keyword).length + (if ([] : List Keyword).isEmpty then 0 else 1) < 30)) = true := by rfl)
    (hline : (apos.endLine == cpos.line) = true := by rfl) (hs : starEach [e] X.env = (false, eval e X.env) :: starEach [] X.env := by rfl) (hplain : (backTo cpos (starEach [] X.env)).any (·.1) = false := by rfl) :
    QE X (.Call (.Attribute o "append" apos) [e] [] cpos) (tApp3 to te) :=
  (pe_bm PySem.F.plainAttrs_list PySem.F.slot_list_append PySem.F.type_list_append mt_append ho (pa_cons he pa_nil hs) hbase hfew hline hs hplain).imp fun σ H R ⟨w, env, S, Q, r0, en, t, q⟩ => by
    have hz : sizeLine = 16777216 := sizeLine_eq
    refine ⟨w, env, S, _, r0, en, t, fun w1 v d H1 S1 e1 r1 p1 t1 => ?_⟩
    split at t1
    · rename_i nd ho1
      obtain ⟨n0, ds0⟩ := nd
      obtain ⟨a0, xs0, rfl, hd0, _, _, hu0, _, _⟩ := own3_low r1 p1 ho1
      refine ⟨.inl ⟨rfl, xs0, .inl (.inl hu0)⟩, ?_⟩
      refine ⟨w1, env, S1, _, r1, en.mono e1, t1, fun w2 u c H2 S2 e2 r2 p2 t2 => ?_⟩
      split at t2
      · rename_i n ds d' ho2
        obtain ⟨a, xs, hva, rfl, ha, hs, hu, hd, hzz⟩ := own3_low r2 (p1.mono e2) ho2
        cases hva
        have hl := DpAll.length hd
        refine ⟨_, xs, u, rfl, rfl, hu, by omega, ?_⟩
        exact q w2 .non (.p .none) _ _ (e1.trans e2) (r2.put (o' := .lst (ds ++ [d'])) ha hs ⟨_, rfl, DpAll.append hd (.cons p2 .nil), by rw [List.length_append, List.length_singleton]; omega⟩) rep_non t2.2
      · exact t2.elim
    · exact t1.elim
/-- xs.pop() -/
def tPop3 (to : TE3) : TE3 := fun env S Q => to env S fun o S1 => match own3 S1 o with
  | some (n, ds) => (match ds.getLast? with
    | some d => Q (.p d) (S1.set n (some (.lst ds.dropLast)))
    | none => False)
  | none => False
theorem DpAll.dropLast {K : PySem.W.Frag} {h : Hp} {vs : List V} {ds : List PyData} (r : DpAll K h vs ds) : DpAll K h vs.dropLast ds.dropLast := by
  rw [List.dropLast_eq_take, List.dropLast_eq_take, DpAll.length r]
  exact DpAll.take _ r
theorem qe_pop (ho : QE X o to) (hbase : attributeBase o "pop" X.env (eval o X.env) = eval o X.env := by rfl) (hline : (apos.endLine == cpos.line) = true := by rfl) :
    QE X (.Call (.Attribute o "pop" apos) [] [] cpos) (tPop3 to) :=
  (pe_bm0 PySem.F.plainAttrs_list PySem.F.slot_list_pop PySem.F.type_list_pop mt_pop ho hbase hline).imp fun σ H R ⟨w, env, S, Q, r0, en, t, q⟩ => by
    refine ⟨w, env, S, _, r0, en, t, fun w1 v d H1 S1 e1 r1 p1 t1 => ?_⟩
    split at t1
    · rename_i n ds ho1
      split at t1
      rotate_left
      · exact t1.elim
      rename_i d' hd'
      rw [List.getLast?_eq_getElem?] at hd'
      obtain ⟨a, xs, rfl, rfl, ha, hs, hu, hd, hz⟩ := own3_low r1 p1 ho1
      obtain ⟨u, h1, h2⟩ := DpAll.get hd hd'
      refine ⟨.inl ⟨rfl, xs, .inl (.inl hu)⟩, a, xs, u, rfl, rfl, hu, by rw [DpAll.length hd]; exact h1, ?_⟩
      exact q w1 u (.p d') _ _ e1 (r1.put (o' := .lst ds.dropLast) ha hs ⟨_, rfl, DpAll.dropLast hd, by rw [List.length_dropLast]; omega⟩) h2 t1
    · exact t1.elim
/-- xs.pop(i) -/
def tPopAt3 (to ti : TE3) : TE3 := fun env S Q => to env S fun o S1 => match own3 S1 o with
  | some _ => ti env S1 fun i S2 => match own3 S2 o, i with
    | some (n, ds), .p (.int k) => (match ixN ds.length k with
      | some j => (match ds[j]? with
        | some d => Q (.p d) (S2.set n (some (.lst (ds.eraseIdx j))))
        | none => False)
      | none => False)
    | _, _ => False
  | none => False
theorem qe_popAt (ho : QE X o to) (he : QE X e te) (hbase : attributeBase o "pop" X.env (eval o X.env) = eval o X.env := by rfl)
    (hfew : ((backTo cpos (starEach [e] X.env)).all (fun x => !x.1) && (backToKw cpos (keywordEach [] X.env)).all (fun x => x.1.isSome)
      && decide (([e] : List Expr).length + ([] : List Keyword).length + (if ([] : List Keyword).isEmpty then 0 else 1) < 30)) = true := by rfl)
    (hline : (apos.endLine == cpos.line) = true := by rfl) (hs : starEach [e] X.env = (false, eval e X.env) :: starEach [] X.env := by rfl) (hplain : (backTo cpos (starEach [] X.env)).any (·.1) = false := by rfl) :
    QE X (.Call (.Attribute o "pop" apos) [e] [] cpos) (tPopAt3 to te) :=
  (pe_bm PySem.F.plainAttrs_list PySem.F.slot_list_pop PySem.F.type_list_pop mt_popAt ho (pa_cons he pa_nil hs) hbase hfew hline hs hplain).imp fun σ H R ⟨w, env, S, Q, r0, en, t, q⟩ => by
    have hz : sizeLine = 16777216 := sizeLine_eq
    refine ⟨w, env, S, _, r0, en, t, fun w1 v d H1 S1 e1 r1 p1 t1 => ?_⟩
    split at t1
    · rename_i nd ho1
      obtain ⟨n0, ds0⟩ := nd
      obtain ⟨a0, xs0, rfl, hd0, _, _, hu0, _, _⟩ := own3_low r1 p1 ho1
      refine ⟨.inl ⟨rfl, xs0, .inl (.inl hu0)⟩, ?_⟩
      refine ⟨w1, env, S1, _, r1, en.mono e1, t1, fun w2 u c H2 S2 e2 r2 p2 t2 => ?_⟩
      split at t2
      · rename_i n ds k ho2
        split at t2
        rotate_left
        · exact t2.elim
        rename_i j hj
        split at t2
        rotate_left
        · exact t2.elim
        rename_i d' hd'
        obtain ⟨a, xs, hva, rfl, ha, hs, hu, hd, hzz⟩ := own3_low r2 (p1.mono e2) ho2
        cases hva
        have hl := DpAll.length hd
        obtain ⟨h1, h2, h3, h4⟩ := ixN_seq hj
        obtain ⟨y, h5, h6⟩ := DpAll.get hd hd'
        have := dp_int p2
        subst this
        refine ⟨_, xs, k, j, y, rfl, rfl, hu, by omega, by omega, by rw [hl]; exact h1, h5, ?_⟩
        exact q w2 y (.p d') _ _ (e1.trans e2) (r2.put (o' := .lst (ds.eraseIdx j)) ha hs ⟨_, rfl, DpAll.eraseIdx j hd, Nat.le_trans (List.length_eraseIdx_le ..) hzz⟩) (RepD.mono0 (Ex3.refl w2).toEx0 h6) t2
      · exact t2.elim
    · exact t1.elim

/-! ### isinstance(x, T) -/
def isTy (T : String) : PyData → Bool
  | .none => T == "NoneType"
  | .bool _ => T == "bool" || T == "int"
  | .int _ => T == "int"
  | .str _ => T == "str"
  | .list _ => T == "list"
  | .tuple _ => T == "tuple"
  | .dict _ => T == "dict"
def tIsi3 (T : String) (te : TE3) : TE3 := fun env S Q => te env S fun x S1 => match x with
  | .p d => Q (.p (.bool (isTy T d))) S1
  | .loc n => match S1[n]? with
    | some (some (.lst _)) => Q (.p (.bool (T == "list"))) S1
    | some (some (.dic _)) => Q (.p (.bool (T == "dict"))) S1
    | _ => False
  | _ => False
def kitAll (T : String) : Bool := decide (kitB "NoneType" T = some (T == "NoneType")) && decide (kitB "bool" T = some (T == "bool" || T == "int")) && decide (kitB "int" T = some (T == "int")) && decide (kitB "str" T = some (T == "str")) && decide (kitB "list" T = some (T == "list")) && decide (kitB "tuple" T = some (T == "tuple")) && decide (kitB "dict" T = some (T == "dict"))
theorem isi_low {K : PySem.W.Frag} {w : W3} {H : Hp} {S : S3} {v : V} {d : PyData} {T : String} (hk : kitAll T = true) (r : Rel3 K w H S) (p : Dp K w.h v d) : ∃ t, TyX K H v t ∧ PySem.W.kitOne K t (.type T) = some (isTy T d) := by
  unfold kitAll at hk
  simp only [Bool.and_eq_true, decide_eq_true_eq] at hk
  obtain ⟨⟨⟨⟨⟨⟨k1, k2⟩, k3⟩, k4⟩, k5⟩, k6⟩, k7⟩ := hk
  cases p with
  | non => exact ⟨_, .base .non, kit_ty k1⟩
  | bl b => exact ⟨_, .base (.bl b), kit_ty k2⟩
  | int i => exact ⟨_, .base (.int i), kit_ty k3⟩
  | str x => exact ⟨_, .base (.str x), kit_ty k4⟩
  | lst hs ha =>
    rcases hs with (hs | ⟨o, hs⟩) | ⟨o, its, n, hk, hc, _, hd, _, _⟩
    · exact ⟨_, .base (.lst (r.sub _ _ hs)), kit_ty k5⟩
    · exact ⟨_, .base (.frz (r.sub _ _ hs)), kit_ty k5⟩
    · exact ⟨_, .kList hk hc, kit_ty k5⟩
  | tup hs ha =>
    rcases hs with (hs | ⟨o, hs⟩) | ⟨o, its, n, hk, hc, hd, _, _⟩
    · exact ⟨_, .base (.tup (r.sub _ _ hs)), kit_ty k6⟩
    · exact ⟨_, .fTuple (r.sub _ _ hs), kit_ty k6⟩
    · exact ⟨_, .kTuple hk hc, kit_ty k6⟩
  | dct hs ha => exact ⟨_, .base (.dK (r.sub _ _ hs)), kit_ty k7⟩
theorem qe_isi {T : String} {x : Str} {pi px : Pos} (hk : kitAll T = true) (hg : Gl X "isinstance") (hm : X.mg "isinstance" = none) (hgx : Gl X x) (hmx : X.mg x = none) (hvx : bootBuiltins x = some (.type T)) (hnx : x ≠ "__name__") (hdx : (x == ("__debug__" : Str)) = false) (he : QE X e te)
    (h1 : starEach [e, .Name x px] X.env = (false, eval e X.env) :: starEach [.Name x px] X.env := by rfl) (h2 : starEach [.Name x px] X.env = (false, eval (.Name x px) X.env) :: starEach [] X.env := by rfl) (hpl : (backTo pos (starEach [.Name x px] X.env)).any (·.1) = false := by rfl) :
    QE X (.Call (.Name "isinstance" pi) [e, .Name x px] [] pos) (tIsi3 T te) :=
  (pe_callB call_isi hg hm (by decide +kernel) (pa_cons he (pa_cons (pe_bltn (v := .ty T) hgx hmx hvx rfl hnx hdx) pa_nil h2) h1) (by decide) (by decide) h1 hpl).imp fun σ H R ⟨w, env, S, Q, r0, en, t, q⟩ => by
    refine ⟨w, env, S, _, r0, en, t, fun w1 v d H1 S1 e1 r1 p1 t1 => ?_⟩
    split at t1
    · rename_i d
      obtain ⟨ty, h3, h4⟩ := isi_low hk r1 p1
      exact ⟨v, .ty T, ty, .type T, _, rfl, .ty T, h3, h4, q _ _ _ _ _ e1 r1 rep_bl t1⟩
    · unfold kitAll at hk
      simp only [Bool.and_eq_true, decide_eq_true_eq] at hk
      obtain ⟨⟨⟨⟨⟨⟨k1, k2⟩, k3⟩, k4⟩, k5⟩, k6⟩, k7⟩ := hk
      obtain ⟨a, ha, rfl⟩ := p1
      split at t1
      · rename_i ds hs
        obtain ⟨_, u, hu, xs, rfl, hd, hz⟩ := r1.live _ a _ ha hs
        exact ⟨_, .ty T, _, .type T, _, rfl, .ty T, .base (.lst hu), kit_ty k5, q _ _ _ _ _ e1 r1 rep_bl t1⟩
      · rename_i ds hs
        obtain ⟨_, u, hu, xs, rfl, hd⟩ := r1.live _ a _ ha hs
        exact ⟨_, .ty T, _, .type T, _, rfl, .ty T, .base (.dT hu), kit_ty k7, q _ _ _ _ _ e1 r1 rep_bl t1⟩
      · exact t1.elim
    · exact t1.elim
end
/-! ### a law's own entry -/
theorem dpAll_ints {K : PySem.W.Frag} {h : Hp} : ∀ ns : List Int, DpAll K h (ns.map V.int) (ns.map PyData.int)
  | [] => .nil
  | n :: ns => .cons (.int n) (dpAll_ints ns)
def spLaw3 : Sp3 := fun ds S Q => ∃ ns : List Int, ds = [.p (.list (ns.map PyData.int))] ∧ ns.length ≤ 63 ∧ S = [] ∧ ∀ S', Q (.p (.bool true)) S'
theorem law_in {K : PySem.W.Frag} {H : Hp} {a : Addr} {ns : List Int} {Q : VK} (hl : ns.length ≤ 63) (hS : SqL K H a (ns.map V.int)) (hQ : ∀ H', Q (.bl true) H') : lowC K spLaw3 [.ref a] H Q := by
  have hz : sizeLine = 16777216 := sizeLine_eq
  have fin : ∀ w : W3, Rel3 K w H [] → SqL K w.h a (ns.map V.int) → lowC K spLaw3 [.ref a] H Q := fun w r hq => by
    refine ⟨w, [], [.p (.list (ns.map PyData.int))], fun d _ => d = .p (.bool true), r, ⟨.lst hq (dpAll_ints ns), trivial⟩, ⟨ns, rfl, hl, rfl, fun _ => rfl⟩, fun w' v d H' S' e r' p h => ?_⟩
    subst h
    have := dp_bl p
    subst this
    exact hQ H'
  have tracked : ∀ u, H a = some u → (u = .lst (ns.map V.int) ∨ ∃ o, u = .frz o (.lst (ns.map V.int))) → lowC K spLaw3 [.ref a] H Q := fun u hu hk => by
    refine fin ⟨[], upd (fun _ => none) a u, []⟩ ⟨fun b x e => ?_, fun b x e => ?_, rfl, fun n b o e => by simp at e, fun n b e => by simp at e, List.nodup_nil, fun b x hb => by simp at hb, PnOk.nil⟩ ?_
    · have e' : upd (fun _ => none) a u b = some x := e
      by_cases hb : b = a
      · subst hb
        rw [upd_same] at e'
        cases e'
        exact hu
      · rw [upd_ne hb] at e'
        cases e'
    · have e' : upd (fun _ => none) a u b = some x := e
      by_cases hb : b = a
      · subst hb
        rw [upd_same] at e'
        cases e'
        rcases hk with rfl | ⟨o, rfl⟩
        · show (ns.map V.int).length ≤ _
          rw [List.length_map]
          omega
        · show (ns.map V.int).length ≤ _
          rw [List.length_map]
          omega
      · rw [upd_ne hb] at e'
        cases e'
    · rcases hk with rfl | ⟨o, rfl⟩
      · exact .inl (.inl (upd_same (H := fun _ => none) (a := a)))
      · exact .inl (.inr ⟨o, upd_same (H := fun _ => none) (a := a)⟩)
  rcases hS with (h | ⟨o, h⟩) | h
  · exact tracked _ h (.inl rfl)
  · exact tracked _ h (.inr ⟨o, rfl⟩)
  · exact fin ⟨[], fun _ => none, []⟩ ⟨(fun b x e => nomatch e), (fun b x e => nomatch e), rfl, (fun n b o e => by simp at e), (fun n b e => by simp at e), List.nodup_nil, (fun b x hb => by simp at hb), PnOk.nil⟩ (.inr h)
/-! ### repr of ints, None, truths -/
def rRepr3 : C3 := fun ds S Q => match ds with
  | [.p (.int i)] => i.natAbs.log2 < 1920 ∧ Q (.p (.str (toString i))) S
  | [.p .none] => Q (.p (.str "None")) S
  | _ => False
section
variable {X : Cx}
theorem call_repr_i : CallR X (.builtin "repr") (fun xs H Q => (∃ i, xs = [.int i] ∧ i.natAbs.log2 < 1920 ∧ Q (.str (toString i)) H) ∨ (xs = [.non] ∧ Q (.str "None") H)) := by
  intro pins s σ H xs us Q I r h
  rcases h with ⟨i, rfl, hz, q⟩ | ⟨rfl, q⟩
  · obtain ⟨u, rfl, t, rfl⟩ := vals1 r
    exact PySem.P.repr_of_int hz ⟨.str _, H, I.tok _, ⟨_, rfl⟩, q⟩
  · obtain ⟨u, rfl, r1⟩ := vals1 r
    cases r1
    exact PySem.P.repr_of_none ⟨.str _, H, I.tok _, ⟨_, rfl⟩, q⟩
theorem cq_repr : CQ X (.builtin "repr") rRepr3 := callq call_repr_i fun w S ds xs H Q R r0 p1 t q => by
  unfold rRepr3 at t
  split at t
  · obtain ⟨v, rfl, p⟩ := rds1 p1
    have := dp_int p
    subst this
    exact .inl ⟨_, rfl, t.1, q.str r0 t.2⟩
  · obtain ⟨v, rfl, p⟩ := rds1 p1
    have := dp_non p
    subst this
    exact .inr ⟨rfl, q.str r0 t⟩
  · exact t.elim
def rNeg3 : U3 := fun x S Q => match x with
  | .p (.int i) => Q (.p (.int (-i))) S
  | _ => False
theorem uq_neg : UQ X (unaryOp .USub) rNeg3 := UnR.imp un_neg fun x H R ⟨w, S, d, Q, r0, p, t, q⟩ => by
  unfold rNeg3 at t
  split at t
  · exact ⟨_, dp_int p, q.int r0 t⟩
  · exact t.elim
end
end L3

namespace L3
open PySem PySem.Spec PyProof.Rows L2
/-! ### for readings -/
theorem eqv_int (a b : Int) : PyData.eqv (.int a) (.int b) = (a == b) := by simp [PyData.eqv]
theorem eqv_bool (a b : Bool) : PyData.eqv (.bool a) (.bool b) = (a == b) := by simp [PyData.eqv]
theorem eqv_str (a b : Str) : PyData.eqv (.str a) (.str b) = (a == b) := by simp [PyData.eqv]
theorem eqv_ni (a : Int) : PyData.eqv .none (.int a) = false := by simp [PyData.eqv]
theorem eqv_in (a : Int) : PyData.eqv (.int a) .none = false := by simp [PyData.eqv]
theorem shaped_int (a : Int) : SeqAt.shaped (.int a) = true := rfl
theorem shaped_bool (a : Bool) : SeqAt.shaped (.bool a) = true := rfl
theorem shaped_none : SeqAt.shaped .none = true := rfl
theorem strOk_of (s : String) : PyData.strOk (PySem.Str.ofString s) = true := by
  rw [PySem.Str.ofString_eq_toList]
  unfold PyData.strOk
  rw [← Array.all_toList]
  simp only [List.all_eq_true, decide_eq_true_eq]
  intro c hc
  obtain ⟨d, _, rfl⟩ := List.mem_map.mp (by simpa using hc)
  have := d.valid
  rcases this with h | ⟨_, h⟩
  · exact Nat.lt_trans h (by decide)
  · exact h
theorem shaped_str {x : Str} (h : PyData.strOk x = true) : SeqAt.shaped (.str x) = true := by
  unfold SeqAt.shaped PyData.canLay0
  rw [h]
  rfl
theorem eqv_str_self (a : Str) : PyData.eqv (.str a) (.str a) = true := by rw [eqv_str]; simp
theorem shaped_ofStr (s : String) : SeqAt.shaped (.str (PySem.Str.ofString s)) = true := shaped_str (strOk_of s)
theorem Fits.nil {L : Nat} : Fits [] [] L := ⟨rfl, fun i d h => by simp [at3] at h⟩
theorem Fits.drop {r r' : E3} {x : Option D} {L : Nat} (h : Fits r r' L) : Fits (x :: r) (none :: r') L := ⟨congrArg (· + 1) h.1, fun i d q => by
  cases i with
  | zero => simp [at3] at q
  | succ i => exact h.2 i d q⟩
theorem Fits.keep {r r' : E3} {x : PyData} {L : Nat} (h : Fits r r' L) : Fits (some (.p x) :: r) (some (.p x) :: r') L := ⟨congrArg (· + 1) h.1, fun i d q => by
  cases i with
  | zero =>
    simp [at3] at q
    subst q
    exact ⟨rfl, trivial⟩
  | succ i => exact h.2 i d q⟩
theorem Fits.loc {r r' : E3} {n L : Nat} (hn : n < L) (h : Fits r r' L) : Fits (some (.loc n) :: r) (some (.loc n) :: r') L := ⟨congrArg (· + 1) h.1, fun i d q => by
  cases i with
  | zero =>
    simp [at3] at q
    subst q
    exact ⟨rfl, hn⟩
  | succ i => exact h.2 i d q⟩
theorem wk_self {n : Nat} {I : E3 → S3 → Prop} {e : E3} {s : S3} (h : I e s) : Wk n I e s := .inl h
/-- a hand of three ints at n -/
def Hd (S : S3) (n : Nat) : Prop := ∃ g x c : Int, S[n]? = some (some (.lst [.int g, .int x, .int c]))
def HdTo (n : Nat) (S S' : S3) : Prop := ∃ g x c : Int, S' = S.set n (some (.lst [.int g, .int x, .int c]))
theorem Hd.lt {S : S3} {n : Nat} (h : Hd S n) : n < S.length := by
  obtain ⟨_, _, _, e⟩ := h
  exact (List.getElem?_eq_some_iff.mp e).1
theorem HdTo.len {S S' : S3} {n : Nat} (h : HdTo n S S') : S'.length = S.length := by
  obtain ⟨_, _, _, rfl⟩ := h
  simp
theorem HdTo.hd {S S' : S3} {n : Nat} (h : HdTo n S S') (h0 : Hd S n) : Hd S' n := by
  obtain ⟨g, x, c, rfl⟩ := h
  exact ⟨g, x, c, by rw [List.getElem?_set_self h0.lt]⟩
theorem HdTo.trans {S S' S'' : S3} {n : Nat} (h : HdTo n S S') (h' : HdTo n S' S'') : HdTo n S S'' := by
  obtain ⟨g, x, c, rfl⟩ := h
  obtain ⟨g', x', c', rfl⟩ := h'
  exact ⟨g', x', c', by rw [List.set_set]⟩
theorem fin_hd {n : Nat} {S S' : S3} {Q : K3} {d : PyData} (h : HdTo n S S') (q : Q (.p d) S') : Fin3 S Q (.p d) S' := fin_all (by rw [h.len]; exact Nat.le_refl _) trivial q
theorem ixN_lit (n k : Nat) : ixN n (no_index (@OfNat.ofNat Int k instOfNat)) = if k < n then some k else none := by
  show ixN n ((k : Nat) : Int) = _
  unfold ixN
  rw [if_pos (by omega)]
  by_cases h : k < n
  · rw [if_pos (by omega), if_pos h]
    simp
  · rw [if_neg (by omega), if_neg h]
theorem atI_lit {α : Type} (xs : List α) (k : Nat) : atI xs (no_index (@OfNat.ofNat Int k instOfNat)) = xs[k]? := by
  unfold atI
  rw [ixN_lit]
  by_cases h : k < xs.length
  · rw [if_pos h]
    rfl
  · rw [if_neg h, List.getElem?_eq_none (by omega)]
    rfl
theorem atI_of {α : Type} {xs : List α} {i : Int} {v : α} (h0 : 0 ≤ i) (h : xs[i.toNat]? = some v) : atI xs i = some v := by
  obtain ⟨n, rfl⟩ := Int.eq_ofNat_of_zero_le h0
  exact atI_nat (by simpa using h)
theorem atI_neg1 {α : Type} (xs : List α) : atI xs (-1) = xs.getLast? := by
  unfold atI ixN
  rw [if_neg (by decide)]
  by_cases h : xs = []
  · subst h
    rfl
  · have hl : 0 < xs.length := by
      cases xs with
      | nil => exact absurd rfl h
      | cons => simp
    rw [if_pos (by omega), List.getLast?_eq_getElem?]
    show xs[(-1 + (xs.length : Int)).toNat]? = _
    congr 1
    omega
theorem mulOk_ite (z : Int) (b : Prop) [Decidable b] : MulOk z (if b then 1 else 0) := by
  refine .inr (.inl ?_)
  split <;> constructor <;> decide
instance (i j : Int) : Decidable (MulOk i j) := by unfold MulOk CMulW; infer_instance
instance (i j : Int) : Decidable (DivOk i j) := by unfold DivOk; infer_instance
instance (i j : Int) : Decidable (PowOk i j) := by unfold PowOk; infer_instance
end L3

namespace L3
open PySem PySem.Spec PyProof.Rows L2
/-! ### slices -/
abbrev TO3 := E3 → S3 → (Option Int → S3 → Prop) → Prop
def lowO (K : PySem.W.Frag) (t : TO3) : TO := fun σ H R => ∃ w env S Q, Rel3 K w H S ∧ EnvR K w σ env ∧ t env S Q ∧ ∀ w' o H' S', Ex3 w w' → Rel3 K w' H' S' → Q o S' → R o H'
abbrev QO (X : Cx) (e : Option Expr) (t : TO3) : Prop := PO X e (lowO X.K t)
def tNoPart3 : TO3 := fun _ S Q => Q none S
def tPart3 (te : TE3) : TO3 := fun env S Q => te env S fun x S1 => match x with
  | .p (.int i) => Q (some i) S1
  | _ => False
def cut3 {α : Type} (ds : List α) (lo hi : Option Int) : List α := (ds.drop (HT.sIx ds.length 0 lo)).take (HT.sIx ds.length ds.length hi - HT.sIx ds.length 0 lo)
theorem cut3_len {α : Type} (ds : List α) (lo hi : Option Int) : (cut3 ds lo hi).length ≤ ds.length := by
  unfold cut3
  rw [List.length_take, List.length_drop]
  omega
section
variable {X : Cx} {e : Expr} {te : TE3} {lo hi : Option Expr} {tl th : TO3} {pos p2 : Pos}
theorem qo_none : QO X none tNoPart3 := ⟨fun pins s σ H Q I q => po_none.run pins s σ H Q I (let ⟨w, env, S, Q', r, en, t, q'⟩ := q; q' w none H S (Ex3.refl w) r t)⟩
theorem qo_some (h : QE X e te) : QO X (some e) (tPart3 te) := ⟨fun pins s σ H R I q => (po_some h).run pins s σ H R I (by
  obtain ⟨w, env, S, Q, r, en, t, q⟩ := q
  refine ⟨w, env, S, _, r, en, t, fun w1 v d H1 S1 e1 r1 p1 t1 => ?_⟩
  split at t1
  · exact ⟨_, dp_int p1, q w1 _ H1 S1 e1 r1 t1⟩
  · exact t1.elim)⟩
theorem dp_cut {K : PySem.W.Frag} {h : Hp} {vs : List V} {ds : List PyData} (r : DpAll K h vs ds) (lo hi : Option Int) : DpAll K h (cutV vs lo hi) (cut3 ds lo hi) := by
  unfold cutV cut3
  rw [DpAll.length r]
  exact DpAll.take _ (DpAll.drop _ r)
/-- x[lo:hi]: of a tuple, of a text, of a list (the new one changes no more) -/
def tSl3 (te : TE3) (tl th : TO3) : TE3 := fun env S Q => te env S fun x S1 => tl env S1 fun l S2 => th env S2 fun u S3 => match x with
  | .p (.tuple ds) => Q (.p (.tuple (cut3 ds l u))) S3
  | .p (.str z) => z.length ≤ 16777216 ∧ Q (.p (.str (cutS z l u))) S3
  | d => match lst3 S3 d with
    | some ds => Q (.p (.list (cut3 ds l u))) S3
    | none => False
def tSlN3 (te : TE3) (tl th : TO3) : TN3 := fun env S Q => te env S fun x S1 => tl env S1 fun l S2 => th env S2 fun u S3 => match lst3 S3 x with
  | some ds => Q (cut3 ds l u) S3
  | none => False
theorem cut3_all {α : Type} (ds : List α) (lo hi : Option Int) (h : HT.sIx ds.length 0 lo = 0 ∧ HT.sIx ds.length ds.length hi = ds.length) : cut3 ds lo hi = ds := by
  unfold cut3
  rw [h.1, h.2, List.drop_zero, Nat.sub_zero, List.take_length]
theorem qe_slice (he : QE X e te) (hl : QO X lo tl) (hh : QO X hi th) : QE X (.Subscript e (.Slice lo hi none p2) pos) (tSl3 te tl th) :=
  (pe_slice (SlR.or sl_tupA (SlR.or sl_str sl_list)) he hl hh).imp fun σ H R ⟨w, env, S, Q, r0, en, t, q⟩ => by
    have hz : sizeLine = 16777216 := sizeLine_eq
    refine ⟨w, env, S, _, r0, en, t, fun w1 v d H1 S1 e1 r1 p1 t1 => ?_⟩
    refine ⟨w1, env, S1, _, r1, en.mono e1, t1, fun w2 l H2 S2 e2 r2 t2 => ?_⟩
    refine ⟨w2, env, S2, _, r2, (en.mono e1).mono e2, t2, fun w3 u H3 S3 e3 r3 t3 => ?_⟩
    have p3 := (p1.mono e2).mono e3
    have q3 := (q.mono e1).mono (e2.trans e3)
    split at t3
    · rename_i ds
      obtain ⟨a, xs, rfl, hq, ha⟩ := dp_tup_ref p3
      have hl := DpAll.length ha
      have hlen := len_tup r3 p3
      refine .inl ⟨a, xs, rfl, Same.sqT r3.sub hq, fun hc => ?_, fun _ => q3.tup r3 (dp_cut ha l u) (Nat.le_trans (cut3_len _ _ _) hlen) t3⟩
      rw [hl] at hc
      rw [cut3_all ds l u hc] at t3
      exact q3.old r3 p3 t3
    · have := dp_str p3
      subst this
      exact .inr (.inl ⟨_, rfl, by omega, q3.str r3 t3.2⟩)
    · split at t3
      · rename_i ds h1
        obtain ⟨a, xs, rfl, hq, ha, hlen⟩ := lst3_low r3 p3 h1
        exact .inr (.inr ⟨a, xs, rfl, hq, q3.lst r3 (dp_cut ha l u) (Nat.le_trans (cut3_len _ _ _) hlen) t3⟩)
      · exact t3.elim
theorem qn_slice (he : QE X e te) (hl : QO X lo tl) (hh : QO X hi th) : QN X (.Subscript e (.Slice lo hi none p2) pos) (tSlN3 te tl th) :=
  L2.PE.imp (pe_slice sl_list he hl hh) fun σ H R ⟨w, env, S, Q, r0, en, t, q⟩ => by
    refine ⟨w, env, S, _, r0, en, t, fun w1 v d H1 S1 e1 r1 p1 t1 => ?_⟩
    refine ⟨w1, env, S1, _, r1, en.mono e1, t1, fun w2 l H2 S2 e2 r2 t2 => ?_⟩
    refine ⟨w2, env, S2, _, r2, (en.mono e1).mono e2, t2, fun w3 u H3 S3 e3 r3 t3 => ?_⟩
    have p3 := (p1.mono e2).mono e3
    split at t3
    · rename_i ds h1
      obtain ⟨a, xs, rfl, hq, ha, hlen⟩ := lst3_low r3 p3 h1
      exact ⟨a, xs, rfl, hq, fun p hn => q w3 p _ _ H3 S3 ((e1.trans e2).trans e3) r3 hn (dp_cut ha l u) (Nat.le_trans (cut3_len _ _ _) hlen) t3⟩
    · exact t3.elim
end
/-! ### tuple * int -/
theorem tuple_mul_same (l : Addr) (items : Array Value) (n : Nat) (dd : Option Addr) (sl : Array (Option Value)) (x : Int) (u : Tok) (c0 : (decide (x < -(2 ^ 63)) || decide (x ≥ 2 ^ 63)) = false) (c1 : (items.isEmpty || x == 1) = true) :
    Meets (Builtin.«tuple.__mul__» ⟨[.ref l, .int x u], []⟩) (fun _ R s => s.heap.get? l = some { cls := .type "tuple", dict := dd, data := .seq items n, slots := sl } ∧ R (.ok (.ret (Value.ref l))) s) :=
  .of_wp fun prog w A R s h => by
    obtain ⟨hp, g, d, tk, os⟩ := s
    obtain ⟨hl, h⟩ := h
    have f1 := AutoSeq1.idx_int
    wp_walk using wpAny_loadPart' hl
    repeat (first
      | (refine wpAny_ite_false (decide_eq_false (by rw [c0]; exact Bool.false_ne_true)) ?_; wp_walk using wpAny_loadPart' hl)
      | (refine wpAny_ite_true (decide_eq_true c1) ?_; wp_walk using wpAny_loadPart' hl))
    all_goals first | exact ⟨_, rfl, h⟩ | skip
theorem tuple_mul_none (l : Addr) (items : Array Value) (n : Nat) (dd : Option Addr) (sl : Array (Option Value)) (x : Int) (u : Tok) (c0 : (decide (x < -(2 ^ 63)) || decide (x ≥ 2 ^ 63)) = false) (c1 : (items.isEmpty || x == 1) = false) (c2 : (decide (x ≤ 0) || items.isEmpty) = true) :
    Meets (Builtin.«tuple.__mul__» ⟨[.ref l, .int x u], []⟩) (fun _ R s => s.heap.get? l = some { cls := .type "tuple", dict := dd, data := .seq items n, slots := sl } ∧
      R (.ok (.ret (Value.ref s.heap.objs.size))) { s with heap := s.heap.push { cls := Value.type "tuple", data := Data.seq #[] }, toks := s.toks }) :=
  .of_wp fun prog w A R s h => by
    obtain ⟨hp, g, d, tk, os⟩ := s
    obtain ⟨hl, h⟩ := h
    have f1 := AutoSeq1.idx_int
    wp_walk using wpAny_loadPart' hl
    repeat (first
      | (refine wpAny_ite_false (decide_eq_false (by rw [c0]; exact Bool.false_ne_true)) ?_; wp_walk using wpAny_loadPart' hl)
      | (refine wpAny_ite_false (decide_eq_false (by rw [c1]; exact Bool.false_ne_true)) ?_; wp_walk using wpAny_loadPart' hl)
      | (refine wpAny_ite_true (decide_eq_true c2) ?_; wp_walk using wpAny_loadPart' hl))
    all_goals first | exact ⟨_, rfl, h⟩ | skip
def rRepA (K : PySem.W.Frag) : R2 := fun x y H Q => ∃ l k xs, x = .ref l ∧ y = .int k ∧ SqT K H l xs ∧ -4611686018427387904 ≤ k ∧ k ≤ 16777216 ∧ xs.length * k.toNat ≤ sizeLine ∧
  ((xs = [] ∨ k = 1) → Q (.ref l) H) ∧ (¬ (xs = [] ∨ k = 1) → ∀ p, H p = none → Q (.ref p) (upd H p (.tup (List.replicate k.toNat xs).flatten)))
theorem op_repA {X : Cx} : OpR X (binaryOp .Mult) (rRepA X.K) := by
  intro pins s σ H x y v u Q I rx ry h
  obtain ⟨l, k, xs, rfl, rfl, hT, h1, h2, hz, q1, q2⟩ := h
  cases rx
  obtain ⟨t, rfl⟩ := ry
  obtain ⟨its, r, ⟨⟨cls, dd, data, sl⟩, ho, hc, n, hd⟩, hs⟩ := I.tuple hT
  simp only at hc hd
  subst hc hd
  have hle : its.length = xs.length := r.length.symm
  have hsz0 : its.toArray.size = xs.length := by rw [List.size_toArray, hle]
  have hzl : sizeLine = 16777216 := sizeLine_eq
  have c0 : (decide (k < -(2 ^ 63)) || decide (k ≥ 2 ^ 63)) = false := by
    rw [decide_eq_false (by omega), decide_eq_false (by omega)] <;> rfl
  have hemp : its.toArray.isEmpty = true ↔ xs = [] := by
    rw [Array.isEmpty_iff_size_eq_zero, hsz0]
    exact List.length_eq_zero_iff
  have fin : ∀ {Q' : Value → Shared → Prop}, (call (.builtin "tuple.__mul__") [.ref l, .int k t] : Sem Value) = call (.builtin "tuple.__mul__") [.ref l, .int k t] → True := fun _ => trivial
  by_cases hsame : xs = [] ∨ k = 1
  · have c1 : (its.toArray.isEmpty || k == 1) = true := by
      rcases hsame with h | h
      · rw [hemp.mpr h, Bool.true_or]
      · rw [h]; simp
    refine wpAny_binaryOp_repeat_ref (T := "tuple") (U := "int") (by decide) ⟨_, ho, rfl⟩ (fun s' => typeIs_int s' k t) noFill_tuple_mul F.fills_int_mul F.slot_int_rmul repeat_tuple F.slot_int_index.lookup
      (call_meets F.slot_int_rmul (typeIs_int s k t) F.entry_int_rmul (F.args_int_rmul_2 _ _) (int_rmul_tuple k t l its.toArray n dd sl)
        ⟨ho, rfl, ⟨_, ho, rfl⟩, call_meets F.slot_tuple_mul ⟨_, ho, rfl⟩ F.entry_tuple_mul (F.args_tuple_mul_2 _ _) (tuple_mul_same l its.toArray n dd sl k t c0 c1) ⟨ho, ?_⟩⟩)
    exact ⟨.ref l, H, I, rfl, q1 hsame⟩
  · have c1 : (its.toArray.isEmpty || k == 1) = false := by
      rw [Bool.or_eq_false_iff]
      refine ⟨?_, beq_eq_false_iff_ne.mpr fun z => hsame (.inr z)⟩
      rw [← Bool.not_eq_true]
      exact fun z => hsame (.inl (hemp.mp z))
    have flen : (List.replicate k.toNat its).flatten.length ≤ sizeLine := by
      rw [PyProof.Rows.lm_len_rep_flat, hle, Nat.mul_comm]
      exact hz
    by_cases hk : k ≤ 0
    · have c2 : (decide (k ≤ 0) || its.toArray.isEmpty) = true := by rw [decide_eq_true hk, Bool.true_or]
      refine wpAny_binaryOp_repeat_ref (T := "tuple") (U := "int") (by decide) ⟨_, ho, rfl⟩ (fun s' => typeIs_int s' k t) noFill_tuple_mul F.fills_int_mul F.slot_int_rmul repeat_tuple F.slot_int_index.lookup
        (call_meets F.slot_int_rmul (typeIs_int s k t) F.entry_int_rmul (F.args_int_rmul_2 _ _) (int_rmul_tuple k t l its.toArray n dd sl)
          ⟨ho, rfl, ⟨_, ho, rfl⟩, call_meets F.slot_tuple_mul ⟨_, ho, rfl⟩ F.entry_tuple_mul (F.args_tuple_mul_2 _ _) (tuple_mul_none l its.toArray n dd sl k t c0 c1 c2) ⟨ho, ?_⟩⟩)
      have e0 : k.toNat = 0 := by omega
      have q2' := q2 hsame s.heap.objs.size (I.hok.fresh (Nat.le_refl _))
      rw [e0] at q2'
      refine ⟨.ref s.heap.objs.size, _, I.laid (t' := s.toks) (o := .tup []) (fun b ob q => Heap.get?_push_of_some _ q) (Nat.le_refl _) ?_, rfl, q2'⟩
      exact ⟨Nat.zero_le _, [], .nil, IsTup.new _ _⟩
    · have c2 : (decide (k ≤ 0) || its.toArray.isEmpty) = false := by
        rw [decide_eq_false hk, Bool.false_or]
        exact (Bool.or_eq_false_iff.mp c1).1
      have hm : ((its.toArray.size : Nat) : Int) * k ≤ 16777216 := by
        rw [hsz0]
        have a1 : ((xs.length : Nat) : Int) * k = ((xs.length * k.toNat : Nat) : Int) := by
          rw [Int.natCast_mul]
          congr 1
          omega
        omega
      have c4 : Builtin.Tuple.tupleTooMany (((its.toArray.size : Nat) : Int) * k) = false := by
        unfold Builtin.Tuple.tupleTooMany
        rw [sizeLine_eq]
        exact decide_eq_false (by omega)
      refine wpAny_binaryOp_repeat_ref (T := "tuple") (U := "int") (by decide) ⟨_, ho, rfl⟩ (fun s' => typeIs_int s' k t) noFill_tuple_mul F.fills_int_mul F.slot_int_rmul repeat_tuple F.slot_int_index.lookup
        (call_meets F.slot_int_rmul (typeIs_int s k t) F.entry_int_rmul (F.args_int_rmul_2 _ _) (int_rmul_tuple k t l its.toArray n dd sl)
          ⟨ho, rfl, ⟨_, ho, rfl⟩, call_meets F.slot_tuple_mul ⟨_, ho, rfl⟩ F.entry_tuple_mul (F.args_tuple_mul_2 _ _) (tuple_mulW l its.toArray n dd sl k t c0 c1 c2 (by omega) c4 (by rw [size_rep, List.size_toArray]; exact flen)) ⟨ho, ?_⟩⟩)
      rw [size_rep]
      refine ⟨.ref s.heap.objs.size, _, I.laid (t' := s.toks) (o := .tup (List.replicate k.toNat xs).flatten) (fun b ob q => Heap.get?_push_of_some _ q) (Nat.le_refl _) ?_, rfl, q2 hsame _ (I.hok.fresh (Nat.le_refl _))⟩
      exact ⟨by rw [PyProof.Rows.lm_len_rep_flat, Nat.mul_comm]; exact hz, _, r.rep k.toNat, IsTup.new _ _⟩
/-- a tuple so and so often -/
def rep3 {α : Type} (ds : List α) (k : Int) : List α := (List.replicate k.toNat ds).flatten
theorem rep3_len {α : Type} (ds : List α) (k : Int) : (rep3 ds k).length = ds.length * k.toNat := by
  unfold rep3
  rw [PyProof.Rows.lm_len_rep_flat, Nat.mul_comm]
theorem rep3_one {α : Type} (ds : List α) : rep3 ds 1 = ds := by
  unfold rep3
  simp
theorem rep3_nil {α : Type} (k : Int) : rep3 ([] : List α) k = [] := by
  unfold rep3
  simp
/-- *: of ints, of a tuple and an int -/
def rMulT3 : R3 := fun x y S Q => match x, y with
  | .p (.int i), .p (.int j) => MulOk i j ∧ Q (.p (.int (i * j))) S
  | .p (.tuple ds), .p (.int k) => (-4611686018427387904 ≤ k ∧ k ≤ 16777216 ∧ ds.length * k.toNat ≤ 16777216) ∧ Q (.p (.tuple (rep3 ds k))) S
  | _, _ => False
theorem oq_mulT {X : Cx} : OQ X (binaryOp .Mult) rMulT3 := opq (op_mul.or (op_mulW.or op_repA)) fun w S d e x y H Q R r0 p1 p2 t q => by
  have hz : sizeLine = 16777216 := sizeLine_eq
  unfold rMulT3 at t
  split at t
  · rename_i i j
    obtain ⟨hc, t⟩ := t
    rcases hc with hc | hc | hc
    · exact .inl ⟨i, j, dp_int p1, dp_int p2, .inl (by omega), q.int r0 t⟩
    · exact .inl ⟨i, j, dp_int p1, dp_int p2, .inr (by omega), q.int r0 t⟩
    · exact .inr (.inl ⟨i, j, dp_int p1, dp_int p2, hc, q.int r0 t⟩)
  · rename_i ds k
    obtain ⟨⟨h1, h2, h3⟩, t⟩ := t
    obtain ⟨l, xs, rfl, hq, ha⟩ := dp_tup_ref p1
    have hl := DpAll.length ha
    refine .inr (.inr ⟨l, k, xs, rfl, dp_int p2, Same.sqT r0.sub hq, h1, h2, by rw [hl]; omega, fun hs => ?_, fun _ => q.tup r0 (DpAll.flatten ha k.toNat) (by rw [← rep3, rep3_len]; omega) t⟩)
    rcases hs with hs | hs
    · subst hs
      cases ha
      rw [rep3_nil] at t
      exact q.old r0 p1 t
    · subst hs
      rw [rep3_one] at t
      exact q.old r0 p1 t
  · exact t.elim
/-! ### built-ins over lists -/
def allP {α : Type} (f : PyData → Option α) : List PyData → Option (List α)
  | [] => some []
  | d :: ds => match f d, allP f ds with
    | some x, some xs => some (x :: xs)
    | _, _ => none
def bl? : PyData → Option Bool
  | .bool b => some b
  | _ => none
def int? : PyData → Option Int
  | .int b => some b
  | _ => none
theorem allP_bl : ∀ {ds : List PyData} {bs : List Bool}, allP bl? ds = some bs → ds = bs.map PyData.bool
  | [], _, h => by cases h; rfl
  | d :: ds, bs, h => by
    unfold allP at h
    split at h
    · rename_i x xs h1 h2
      cases h
      rw [List.map_cons, ← allP_bl h2]
      cases d <;> first | (cases h1; rfl) | cases h1
    · cases h
theorem allP_int : ∀ {ds : List PyData} {bs : List Int}, allP int? ds = some bs → ds = bs.map PyData.int
  | [], _, h => by cases h; rfl
  | d :: ds, bs, h => by
    unfold allP at h
    split at h
    · rename_i x xs h1 h2
      cases h
      rw [List.map_cons, ← allP_int h2]
      cases d <;> first | (cases h1; rfl) | cases h1
    · cases h
theorem allP_bls : ∀ bs : List Bool, allP bl? (bs.map PyData.bool) = some bs
  | [] => rfl
  | b :: bs => by rw [List.map_cons]; unfold allP; rw [allP_bls bs]; rfl
theorem allP_ints : ∀ bs : List Int, allP int? (bs.map PyData.int) = some bs
  | [] => rfl
  | b :: bs => by rw [List.map_cons]; unfold allP; rw [allP_ints bs]; rfl
theorem dp_bls {K : PySem.W.Frag} {h : Hp} : ∀ {bs : List Bool} {vs : List V}, DpAll K h vs (bs.map PyData.bool) → vs = bs.map V.bl
  | [], _, r => by cases r; rfl
  | b :: bs, _, r => by
    cases r with
    | cons r1 r2 =>
      cases r1
      rw [dp_bls r2, List.map_cons]
theorem dp_ints {K : PySem.W.Frag} {h : Hp} : ∀ {bs : List Int} {vs : List V}, DpAll K h vs (bs.map PyData.int) → vs = bs.map V.int
  | [], _, r => by cases r; rfl
  | b :: bs, _, r => by
    cases r with
    | cons r1 r2 =>
      cases r1
      rw [dp_ints r2, List.map_cons]
def rBls3 (g : List Bool → PyData) : C3 := fun ds S Q => match ds with
  | [d] => match lst3 S d with
    | some es => (match allP bl? es with
      | some bs => Q (.p (g bs)) S
      | none => False)
    | none => False
  | _ => False
def rInts3 (C : List Int → Prop) (g : List Int → PyData) : C3 := fun ds S Q => match ds with
  | [d] => match lst3 S d with
    | some es => (match allP int? es with
      | some ns => C ns ∧ Q (.p (g ns)) S
      | none => False)
    | none => False
  | _ => False
abbrev rAll3 : C3 := rBls3 fun bs => .bool (bs.all id)
abbrev rAny3 : C3 := rBls3 fun bs => .bool (bs.any id)
def maxI : List Int → Int
  | [] => 0
  | x :: xs => xs.foldl (fun a b => if b > a then b else a) x
def minI : List Int → Int
  | [] => 0
  | x :: xs => xs.foldl (fun a b => if b < a then b else a) x
theorem maxI_go : ∀ (xs : List Int) (x : Int), x ≤ xs.foldl (fun a b => if b > a then b else a) x ∧ (∀ y ∈ xs, y ≤ xs.foldl (fun a b => if b > a then b else a) x) ∧ (xs.foldl (fun a b => if b > a then b else a) x = x ∨ xs.foldl (fun a b => if b > a then b else a) x ∈ xs)
  | [], x => ⟨Int.le_refl _, (fun y h => nomatch h), .inl rfl⟩
  | z :: xs, x => by
    rw [List.foldl_cons]
    obtain ⟨h1, h2, h3⟩ := maxI_go xs (if z > x then z else x)
    refine ⟨?_, fun y hy => ?_, ?_⟩
    · split at h1 <;> rename_i hc <;> simp only [hc, if_true, if_false] <;> omega
    · rcases List.mem_cons.mp hy with rfl | hy
      · split at h1 <;> rename_i hc <;> simp only [hc, if_true, if_false] <;> omega
      · exact h2 y hy
    · rcases h3 with h3 | h3
      · rw [h3]
        split
        · exact .inr List.mem_cons_self
        · exact .inl rfl
      · exact .inr (List.mem_cons_of_mem _ h3)
theorem minI_go : ∀ (xs : List Int) (x : Int), xs.foldl (fun a b => if b < a then b else a) x ≤ x ∧ (∀ y ∈ xs, xs.foldl (fun a b => if b < a then b else a) x ≤ y) ∧ (xs.foldl (fun a b => if b < a then b else a) x = x ∨ xs.foldl (fun a b => if b < a then b else a) x ∈ xs)
  | [], x => ⟨Int.le_refl _, (fun y h => nomatch h), .inl rfl⟩
  | z :: xs, x => by
    rw [List.foldl_cons]
    obtain ⟨h1, h2, h3⟩ := minI_go xs (if z < x then z else x)
    refine ⟨?_, fun y hy => ?_, ?_⟩
    · split at h1 <;> rename_i hc <;> simp only [hc, if_true, if_false] <;> omega
    · rcases List.mem_cons.mp hy with rfl | hy
      · split at h1 <;> rename_i hc <;> simp only [hc, if_true, if_false] <;> omega
      · exact h2 y hy
    · rcases h3 with h3 | h3
      · rw [h3]
        split
        · exact .inr List.mem_cons_self
        · exact .inl rfl
      · exact .inr (List.mem_cons_of_mem _ h3)
theorem maxI_of {ns : List Int} {m : Int} (hm : m ∈ ns) (h : ∀ y ∈ ns, y ≤ m) : maxI ns = m := by
  cases ns with
  | nil => cases hm
  | cons x xs =>
    obtain ⟨h1, h2, h3⟩ := maxI_go xs x
    show xs.foldl _ x = m
    have a : m ≤ xs.foldl (fun a b => if b > a then b else a) x := by
      rcases List.mem_cons.mp hm with rfl | hm
      · exact h1
      · exact h2 m hm
    have b : xs.foldl (fun a b => if b > a then b else a) x ≤ m := by
      rcases h3 with h3 | h3
      · rw [h3]; exact h x List.mem_cons_self
      · exact h _ (List.mem_cons_of_mem _ h3)
    omega
theorem minI_of {ns : List Int} {m : Int} (hm : m ∈ ns) (h : ∀ y ∈ ns, m ≤ y) : minI ns = m := by
  cases ns with
  | nil => cases hm
  | cons x xs =>
    obtain ⟨h1, h2, h3⟩ := minI_go xs x
    show xs.foldl _ x = m
    have a : xs.foldl (fun a b => if b < a then b else a) x ≤ m := by
      rcases List.mem_cons.mp hm with rfl | hm
      · exact h1
      · exact h2 m hm
    have b : m ≤ xs.foldl (fun a b => if b < a then b else a) x := by
      rcases h3 with h3 | h3
      · rw [h3]; exact h x List.mem_cons_self
      · exact h _ (List.mem_cons_of_mem _ h3)
    omega
abbrev rSum3 : C3 := rInts3 (fun _ => True) fun ns => .int ns.sum
abbrev rMaxL3 : C3 := rInts3 (fun ns => ns ≠ []) fun ns => .int (maxI ns)
abbrev rMinL3 : C3 := rInts3 (fun ns => ns ≠ []) fun ns => .int (minI ns)
section
variable {X : Cx}
theorem bls_inv {K : PySem.W.Frag} {w : W3} {H : Hp} {S : S3} {xs : List V} {ds : List D} {g : List Bool → PyData} {Q : K3} (r : Rel3 K w H S) (p0 : RepDs K w xs ds) (t : rBls3 g ds S Q) : ∃ a bs, xs = [.ref a] ∧ SqL K H a (bs.map V.bl) ∧ Q (.p (g bs)) S := by
  unfold rBls3 at t
  split at t
  · obtain ⟨v, rfl, p⟩ := rds1 p0
    split at t
    · rename_i es h1
      split at t
      · rename_i bs h2
        obtain ⟨a, ys, rfl, hq, ha, _⟩ := lst3_low r p h1
        rw [allP_bl h2] at ha
        rw [dp_bls ha] at hq
        exact ⟨a, bs, rfl, hq, t⟩
      · exact t.elim
    · exact t.elim
  · exact t.elim
theorem ints_inv {K : PySem.W.Frag} {w : W3} {H : Hp} {S : S3} {xs : List V} {ds : List D} {C : List Int → Prop} {g : List Int → PyData} {Q : K3} (r : Rel3 K w H S) (p0 : RepDs K w xs ds) (t : rInts3 C g ds S Q) : ∃ a ns, xs = [.ref a] ∧ SqL K H a (ns.map V.int) ∧ C ns ∧ Q (.p (g ns)) S := by
  unfold rInts3 at t
  split at t
  · obtain ⟨v, rfl, p⟩ := rds1 p0
    split at t
    · rename_i es h1
      split at t
      · rename_i bs h2
        obtain ⟨a, ys, rfl, hq, ha, _⟩ := lst3_low r p h1
        rw [allP_int h2] at ha
        rw [dp_ints ha] at hq
        exact ⟨a, bs, rfl, hq, t⟩
      · exact t.elim
    · exact t.elim
  · exact t.elim
theorem cq_all (hc : X.calm = true) : CQ X (.builtin "all") rAll3 := callq (cr_all hc) fun w S ds xs H Q R r0 p1 t q =>
  let ⟨a, bs, e, hq, t⟩ := bls_inv r0 p1 t
  ⟨a, bs, e, hq, q.bl r0 t⟩
theorem cq_any (hc : X.calm = true) : CQ X (.builtin "any") rAny3 := callq (cr_any hc) fun w S ds xs H Q R r0 p1 t q =>
  let ⟨a, bs, e, hq, t⟩ := bls_inv r0 p1 t
  ⟨a, bs, e, hq, q.bl r0 t⟩
theorem cq_sum (hc : X.calm = true) : CQ X (.builtin "sum") rSum3 := callq (cr_sum hc) fun w S ds xs H Q R r0 p1 t q =>
  let ⟨a, ns, e, hq, _, t⟩ := ints_inv r0 p1 t
  ⟨a, ns, e, hq, q.int r0 t⟩
theorem cq_maxL (hc : X.calm = true) : CQ X (.builtin "max") rMaxL3 := callq (cr_max hc) fun w S ds xs H Q R r0 p1 t q =>
  let ⟨a, ns, e, hq, hn, t⟩ := ints_inv r0 p1 t
  ⟨a, ns, e, hq, List.length_pos_iff.mpr hn, fun m h1 h2 => q.int r0 (maxI_of h1 h2 ▸ t)⟩
theorem cq_minL (hc : X.calm = true) : CQ X (.builtin "min") rMinL3 := callq (cr_min hc) fun w S ds xs H Q R r0 p1 t q =>
  let ⟨a, ns, e, hq, hn, t⟩ := ints_inv r0 p1 t
  ⟨a, ns, e, hq, List.length_pos_iff.mpr hn, fun m h1 h2 => q.int r0 (minI_of h1 h2 ▸ t)⟩
def rAbs3 : C3 := fun ds S Q => match ds with
  | [.p (.int i)] => Q (.p (.int (if i < 0 then -i else i))) S
  | _ => False
theorem cq_abs : CQ X (.builtin "abs") rAbs3 := callq call_abs fun w S ds xs H Q R r0 p1 t q => by
  unfold rAbs3 at t
  split at t
  · obtain ⟨v, rfl, p⟩ := rds1 p1
    have := dp_int p
    subst this
    exact ⟨_, rfl, q.int r0 t⟩
  · exact t.elim
end
end L3

namespace L3
open PySem PySem.Spec PyProof.Rows L2 RZ RT
/-! ### zip, enumerate, reversed -/
theorem zip3_get {xs ys : List PyData} {i : Nat} {x : PyData} (h : (zip3 xs ys)[i]? = some x) : ∃ a b, xs[i]? = some a ∧ ys[i]? = some b ∧ x = .tuple [a, b] := by
  unfold zip3 at h
  rw [List.getElem?_map] at h
  cases q : (xs.zip ys)[i]? with
  | none => rw [q] at h; cases h
  | some p =>
    rw [q] at h
    cases h
    rw [List.getElem?_zip_eq_some] at q
    exact ⟨p.1, p.2, q.1, q.2, rfl⟩
theorem zip3_len (xs ys : List PyData) : (zip3 xs ys).length = min xs.length ys.length := by
  unfold zip3
  rw [List.length_map, List.length_zip]
section
variable {K : PySem.W.Frag} {w : W3}
theorem pair_in {w' : W3} {H : Hp} {S : S3} {T : Addr} {v u : V} {x y : PyData} (r : Rel3 K w' H S) (hn : H T = none) (h1 : Dp K w'.h v x) (h2 : Dp K w'.h u y) :
    ∃ w'', Ex3 w' w'' ∧ Rel3 K w'' (upd H T (.tup [v, u])) S ∧ Dp K w''.h (.ref T) (.tuple [x, y]) := by
  obtain ⟨r2, e2⟩ := r.frz (u := .tup [v, u]) hn (by show (2 : Nat) ≤ _; rw [sizeLine_eq]; omega)
  exact ⟨_, e2, r2, Dp.tup (.inl (.inl upd_same)) (dpAll_mono e2.h [x, y] [v, u] (.cons h1 (.cons h2 .nil)))⟩
theorem itr_zipT {a b : Addr} {ds es : List PyData} (h : Dp K w.h (.ref a) (.tuple ds)) (h' : Dp K w.h (.ref b) (.tuple es)) : ItR K w (ItzT K a b) (zip3 ds es) fun _ => True := fun w' H S e r _ => by
  obtain ⟨a', xs, ea, hqa, ha⟩ := dp_tup_ref (dp_mono e.h _ _ h)
  obtain ⟨b', ys, eb, hqb, hb⟩ := dp_tup_ref (dp_mono e.h _ _ h')
  cases ea
  cases eb
  have hqa' := Same.sqT r.sub hqa
  have hqb' := Same.sqT r.sub hqb
  have la := DpAll.length ha
  have lb := DpAll.length hb
  refine ⟨fun i hi => ⟨xs, ys, hqa', hqb', by rw [zip3_len] at hi; omega⟩, fun i x hx => ?_⟩
  obtain ⟨x1, x2, g1, g2, rfl⟩ := zip3_get hx
  obtain ⟨v1, k1, k2⟩ := DpAll.get ha g1
  obtain ⟨v2, k3, k4⟩ := DpAll.get hb g2
  refine ⟨⟨xs, ys, v1, v2, hqa', hqb', k1, k3⟩, fun v H' y => ?_⟩
  obtain ⟨T, y1, y2, rfl, hn, rfl, z1, z2⟩ := y
  have := (z1 _ hqa').symm.trans k1
  cases this
  have := (z2 _ hqb').symm.trans k3
  cases this
  exact pair_in r hn k2 k4
theorem itr_zipL {a b : Addr} {d1 d2 : D} {ds es : List PyData} (h : RepD K w (.ref a) d1) (h' : RepD K w (.ref b) d2) : ItR K w (Itz K a b) (zip3 ds es) fun S => lst3 S d1 = some ds ∧ lst3 S d2 = some es := fun w' H S e r ok => by
  obtain ⟨a', xs, ea, hqa', ha, _⟩ := lst3_low r (h.mono0 e) ok.1
  obtain ⟨b', ys, eb, hqb', hb, _⟩ := lst3_low r (h'.mono0 e) ok.2
  cases ea
  cases eb
  have la := DpAll.length ha
  have lb := DpAll.length hb
  refine ⟨fun i hi => ⟨xs, ys, hqa', hqb', by rw [zip3_len] at hi; omega⟩, fun i x hx => ?_⟩
  obtain ⟨x1, x2, g1, g2, rfl⟩ := zip3_get hx
  obtain ⟨v1, k1, k2⟩ := DpAll.get ha g1
  obtain ⟨v2, k3, k4⟩ := DpAll.get hb g2
  refine ⟨⟨xs, ys, v1, v2, hqa', hqb', k1, k3⟩, fun v H' y => ?_⟩
  obtain ⟨T, y1, y2, rfl, hn, rfl, z1, z2⟩ := y
  have := (z1 _ hqa').symm.trans k1
  cases this
  have := (z2 _ hqb').symm.trans k3
  cases this
  exact pair_in r hn k2 k4
theorem enum3_get {xs : List PyData} {i : Nat} {x : PyData} (h : (enum3 xs)[i]? = some x) : ∃ a, xs[i]? = some a ∧ x = .tuple [.int (i : Nat), a] := by
  unfold enum3 at h
  rw [List.getElem?_map] at h
  rw [List.getElem?_zipIdx] at h
  cases q : xs[i]? with
  | none => rw [q] at h; simp at h
  | some a =>
    rw [q] at h
    simp at h
    exact ⟨a, rfl, h.symm⟩
theorem enum3_len (xs : List PyData) : (enum3 xs).length = xs.length := by
  unfold enum3
  rw [List.length_map, List.length_zipIdx]
theorem itr_enum {a : Addr} {d1 : D} {ds : List PyData} (h : RepD K w (.ref a) d1) : ItR K w (Ite K a) (enum3 ds) fun S => lst3 S d1 = some ds := fun w' H S e r ok => by
  obtain ⟨a', xs, ea, hqa', ha, _⟩ := lst3_low r (h.mono0 e) ok
  cases ea
  have la := DpAll.length ha
  refine ⟨fun i hi => ⟨xs, hqa', by rw [enum3_len] at hi; omega⟩, fun i x hx => ?_⟩
  obtain ⟨x1, g1, rfl⟩ := enum3_get hx
  obtain ⟨v1, k1, k2⟩ := DpAll.get ha g1
  refine ⟨⟨xs, v1, hqa', k1⟩, fun v H' y => ?_⟩
  obtain ⟨T, y1, rfl, hn, rfl, z1⟩ := y
  have := (z1 _ hqa').symm.trans k1
  cases this
  exact pair_in r hn (.int _) k2
theorem rev_get {α : Type} {xs : List α} {i : Nat} {x : α} (h : xs.reverse[i]? = some x) : i < xs.length ∧ xs[xs.length - 1 - i]? = some x := by
  have hi : i < xs.length := by
    have := (List.getElem?_eq_some_iff.mp h).1
    simpa using this
  rw [List.getElem?_reverse hi] at h
  exact ⟨hi, h⟩
theorem itr_revL {a : Addr} {d1 : D} {ds : List PyData} (h : RepD K w (.ref a) d1) : ItR K w (Itv K a ds.length) ds.reverse fun S => lst3 S d1 = some ds := fun w' H S e r ok => by
  obtain ⟨a', xs, ea, hqa', ha, _⟩ := lst3_low r (h.mono0 e) ok
  cases ea
  have la := DpAll.length ha
  refine ⟨fun i hi => by rw [List.length_reverse] at hi; exact hi, fun i x hx => ?_⟩
  obtain ⟨g0, g1⟩ := rev_get hx
  obtain ⟨v1, k1, k2⟩ := DpAll.get ha g1
  refine ⟨⟨g0, xs, v1, hqa', k1⟩, fun v H' y => ?_⟩
  obtain ⟨rfl, z1⟩ := y
  have := (z1 _ hqa').symm.trans k1
  cases this
  exact ⟨w', Ex3.refl _, r, k2⟩
theorem itr_revT {a : Addr} {ds : List PyData} (h : Dp K w.h (.ref a) (.tuple ds)) : ItR K w (ItvT K a ds.length) ds.reverse fun _ => True := fun w' H S e r _ => by
  obtain ⟨a', xs, ea, hqa, ha⟩ := dp_tup_ref (dp_mono e.h _ _ h)
  cases ea
  have hqa' := Same.sqT r.sub hqa
  have la := DpAll.length ha
  refine ⟨fun i hi => by rw [List.length_reverse] at hi; exact hi, fun i x hx => ?_⟩
  obtain ⟨g0, g1⟩ := rev_get hx
  obtain ⟨v1, k1, k2⟩ := DpAll.get ha g1
  refine ⟨⟨g0, xs, v1, hqa', k1⟩, fun v H' y => ?_⟩
  obtain ⟨rfl, z1⟩ := y
  have := (z1 _ hqa').symm.trans k1
  cases this
  exact ⟨w', Ex3.refl _, r, k2⟩
end
def tZipI3 (ta : TA3) : TI3 := fun env S Q => ta env S fun ds S1 => match ds with
  | [.p (.tuple xs), .p (.tuple ys)] => Q (zip3 xs ys) (fun _ => True) S1
  | [x, y] => (match lst3 S1 x, lst3 S1 y with
    | some xs, some ys => Q (zip3 xs ys) (fun S => lst3 S x = some xs ∧ lst3 S y = some ys) S1
    | _, _ => False)
  | _ => False
def tEnumerateI3 (ta : TA3) : TI3 := fun env S Q => ta env S fun ds S1 => match ds with
  | [x] => (match lst3 S1 x with
    | some xs => Q (enum3 xs) (fun S => lst3 S x = some xs) S1
    | _ => False)
  | _ => False
def tReversedI3 (te : TE3) : TI3 := fun env S Q => te env S fun x S1 => match x with
  | .p (.tuple xs) => Q xs.reverse (fun _ => True) S1
  | x => (match lst3 S1 x with
    | some xs => Q xs.reverse (fun S => lst3 S x = some xs) S1
    | _ => False)
section
variable {X : Cx} {e e2 : Expr} {te : TE3} {ta : TA3} {p pos tpos : Pos} {elts : List Expr} {kk : Nat} {tg : Expr}
theorem qi_zip (hc : X.calm = true) (hg : Gl X "zip") (hm : X.mg "zip" = none) (ha : QA X [e, e2] ta)
    (hs : starEach [e, e2] X.env = (false, eval e X.env) :: starEach [e2] X.env := by rfl) (hpl : (backTo pos (starEach [e2] X.env)).any (·.1) = false := by rfl) :
    QI X (.Tuple elts kk tpos) (.Call (.Name "zip" p) [e, e2] [] pos) (tZipI3 ta) := (pi_zipA hg hm ha hs hpl).imp fun σ H R ⟨w, env, S, Q, r0, en, t, q⟩ => by
  refine ⟨w, env, S, _, r0, en, t, fun w1 vs ds H1 S1 e1 r1 p1 t1 => ?_⟩
  split at t1
  · obtain ⟨v, u, rfl, p2, p3⟩ := rds2 p1
    obtain ⟨a, xs, rfl, hqa, ha⟩ := dp_tup_ref p2
    obtain ⟨b, ys, rfl, hqb, hb⟩ := dp_tup_ref p3
    have l1 := len_tup r1 p2
    exact ⟨a, b, xs, ys, rfl, .inr ⟨Same.sqT r1.sub hqa, Same.sqT r1.sub hqb, q w1 _ H1 S1 _ _ e1 r1 (itr_zipT p2 p3) (by rw [zip3_len]; omega) t1⟩⟩
  · obtain ⟨v, u, rfl, p2, p3⟩ := rds2 p1
    split at t1
    · rename_i xs' ys' h1 h2
      obtain ⟨a, xs, rfl, hqa, ha, hla⟩ := lst3_low r1 p2 h1
      obtain ⟨b, ys, rfl, hqb, hb, hlb⟩ := lst3_low r1 p3 h2
      exact ⟨a, b, xs, ys, rfl, .inl ⟨hqa, hqb, q w1 _ H1 S1 _ _ e1 r1 (itr_zipL p2 p3) (by rw [zip3_len]; omega) t1⟩⟩
    · exact t1.elim
  · exact t1.elim
theorem qi_enumerate (hc : X.calm = true) (hg : Gl X "enumerate") (hm : X.mg "enumerate" = none) (ha : QA X [e] ta) (hs : starEach [e] X.env = [(false, eval e X.env)] := by rfl) :
    QI X (.Tuple elts kk tpos) (.Call (.Name "enumerate" p) [e] [] pos) (tEnumerateI3 ta) := (pi_enum hg hm ha hs).imp fun σ H R ⟨w, env, S, Q, r0, en, t, q⟩ => by
  refine ⟨w, env, S, _, r0, en, t, fun w1 vs ds H1 S1 e1 r1 p1 t1 => ?_⟩
  split at t1
  · obtain ⟨v, rfl, p2⟩ := rds1 p1
    split at t1
    · rename_i xs' h1
      obtain ⟨a, xs, rfl, hqa, ha, hla⟩ := lst3_low r1 p2 h1
      exact ⟨a, xs, rfl, hqa, q w1 _ H1 S1 _ _ e1 r1 (itr_enum p2) (by rw [enum3_len]; exact hla) t1⟩
    · exact t1.elim
  · exact t1.elim
theorem qi_reversed (hc : X.calm = true) (hg : Gl X "reversed") (hm : X.mg "reversed" = none) (he : QE X e te) (hs : starEach [e] X.env = (false, eval e X.env) :: starEach [] X.env := by rfl) :
    QI X tg (.Call (.Name "reversed" p) [e] [] pos) (tReversedI3 te) := (pi_revA hg hm he hs).imp fun σ H R ⟨w, env, S, Q, r0, en, t, q⟩ => by
  refine ⟨w, env, S, _, r0, en, t, fun w1 v d H1 S1 e1 r1 p1 t1 => ?_⟩
  split at t1
  · obtain ⟨a, xs, rfl, hqa, ha⟩ := dp_tup_ref p1
    have hl := DpAll.length ha
    refine ⟨a, xs, rfl, .inr ⟨Same.sqT r1.sub hqa, ?_⟩⟩
    rw [hl]
    exact q w1 _ H1 S1 _ _ e1 r1 (itr_revT p1) (by rw [List.length_reverse]; exact len_tup r1 p1) t1
  · split at t1
    · rename_i xs' h1
      obtain ⟨a, xs, rfl, hqa, ha, hla⟩ := lst3_low r1 p1 h1
      have hl := DpAll.length ha
      refine ⟨a, xs, rfl, .inl ⟨hqa, ?_⟩⟩
      rw [hl]
      exact q w1 _ H1 S1 _ _ e1 r1 (itr_revL p1) (by rw [List.length_reverse]; exact hla) t1
    · exact t1.elim
/-! ### tuple(reversed(xs)), list(x) -/
def tTupRev3 (te : TE3) : TE3 := fun env S Q => te env S fun x S1 => match lst3 S1 x with
  | some ds => Q (.p (.tuple ds.reverse)) S1
  | none => False
theorem qe_tupRev {p2 pos2 : Pos} (hc : X.calm = true) (hg : Gl X "tuple") (hm : X.mg "tuple" = none) (hg2 : Gl X "reversed") (hm2 : X.mg "reversed" = none) (he : QE X e te)
    (hs : starEach [e] X.env = (false, eval e X.env) :: starEach [] X.env := by rfl)
    (hs2 : starEach [.Call (.Name "reversed" p2) [e] [] pos2] X.env = (false, eval (.Call (.Name "reversed" p2) [e] [] pos2) X.env) :: starEach [] X.env := by rfl) :
    QE X (.Call (.Name "tuple" p) [.Call (.Name "reversed" p2) [e] [] pos2] [] pos) (tTupRev3 te) := (pe_tupRev hc hg hm hg2 hm2 he hs hs2).imp fun σ H R ⟨w, env, S, Q, r0, en, t, q⟩ => by
  refine ⟨w, env, S, _, r0, en, t, fun w1 v d H1 S1 e1 r1 p1 t1 => ?_⟩
  split at t1
  · rename_i ds h1
    obtain ⟨a, xs, rfl, hq, ha, hz⟩ := lst3_low r1 p1 h1
    exact ⟨a, xs, rfl, hq, (q.mono e1).tup r1 (DpAll.reverse ha) (by rw [List.length_reverse]; exact hz) t1⟩
  · exact t1.elim
def tLstOf3 (ta : TA3) : TN3 := fun env S Q => ta env S fun ds S1 => match ds with
  | [d] => (match seq3 S1 d with
    | some es => Q es S1
    | none => False)
  | _ => False
theorem qn_listOf (hg : Gl X "list") (hm : X.mg "list" = none) (ha : QA X [e] ta) (he : starEach [e] X.env = (false, eval e X.env) :: starEach [] X.env := by rfl) (hpl : (backTo pos (starEach [] X.env)).any (·.1) = false := by rfl) :
    QN X (.Call (.Name "list" p) [e] [] pos) (tLstOf3 ta) := L2.PE.imp (pe_callTy call_list_of hg hm (by decide +kernel) ha (by decide) (by decide) he hpl) fun σ H R ⟨w, env, S, Q, r0, en, t, q⟩ => by
  refine ⟨w, env, S, _, r0, en, t, fun w1 vs ds H1 S1 e1 r1 p1 t1 => ?_⟩
  split at t1
  · obtain ⟨v, rfl, p2⟩ := rds1 p1
    split at t1
    · rename_i es h1
      obtain ⟨a, xs, rfl, hq, ha, hz⟩ := seq3_low r1 p2 h1
      exact ⟨a, xs, rfl, hq, fun l hn => q w1 l xs _ H1 S1 e1 r1 hn ha hz t1⟩
    · exact t1.elim
  · exact t1.elim
end
/-! ### repr of data: in a stack that shows nothing yet -/
def ReprOk (d : PyData) : Prop := d.showable = true ∧ d.shown.length ≤ 16777216 ∧ d.depth ≤ 60 ∧ d.hasDict = false
def rReprD3 : C3 := fun ds S Q => match ds with
  | [.p d] => ReprOk d ∧ Q (.p (.str d.shown)) S
  | _ => False
section
variable {X : Cx}
def rShow (K : PySem.W.Frag) : List V → Hp → VK → Prop := fun xs H Q => ∃ (v : V) (d : PyData), xs = [v] ∧ Dp K H v d ∧ ReprOk d ∧ Q (.str d.shown) H
theorem call_reprD (hg : X.A.guards = some []) (hu : X.A.units + 64 < cLine) : CallR X (.builtin "repr") (rShow X.K) := by
  intro pins s σ H xs us Q I r h
  obtain ⟨v, d, rfl, hd, ⟨h1, h2, h3, h4⟩, q⟩ := h
  have hz : sizeLine = 16777216 := sizeLine_eq
  obtain ⟨u, rfl, r1⟩ := vals1 r
  obtain ⟨as, rd⟩ := Dp.reads I d v u hd r1
  have nod : d.hasDict = true → sysModules ∉ as := PyData.noDict_hsm h4
  cases d with
  | none =>
    cases hd
    cases r1
    simp only [PyData.shown] at q
    exact PySem.P.repr_of_none ⟨.str _, H, I.tok _, ⟨_, rfl⟩, q⟩
  | bool b =>
    cases hd
    cases r1
    simp only [PyData.shown] at q
    exact PySem.P.repr_of_bool ⟨.str _, H, I.tok _, ⟨_, rfl⟩, q⟩
  | int i =>
    cases hd
    obtain ⟨t, rfl⟩ := r1
    simp only [PyData.shown] at q
    have h1' : i.natAbs.log2 < 1920 := by
      simp only [PyData.showable] at h1
      exact of_decide_eq_true h1
    exact PySem.P.repr_of_int h1' ⟨.str _, H, I.tok _, ⟨_, rfl⟩, q⟩
  | str x =>
    cases hd
    obtain ⟨t, rfl⟩ := r1
    simp only [PyData.shown] at q h2
    exact PySem.P.repr_of_str ⟨.str _, H, I.tok _, ⟨_, rfl⟩, q⟩ (by omega)
  | list ds =>
    cases hd with
    | lst hs ha =>
      cases r1
      refine repr_of_reads' rd h1 nod hg (by omega) (fun b o e => e) (fun h' u tk hk => ?_) (by omega)
      exact ⟨.str _, H, I.kept (t' := tk) hk, ⟨_, rfl⟩, q⟩
  | tuple ds =>
    cases hd with
    | tup hs ha =>
      cases r1
      refine repr_of_reads' rd h1 nod hg (by omega) (fun b o e => e) (fun h' u tk hk => ?_) (by omega)
      exact ⟨.str _, H, I.kept (t' := tk) hk, ⟨_, rfl⟩, q⟩
  | dict kvs => simp [PyData.hasDict] at h4
theorem cq_reprD (hg : X.A.guards = some []) (hu : X.A.units + 64 < cLine) : CQ X (.builtin "repr") rReprD3 := callq (call_reprD hg hu) fun w S ds xs H Q R r0 p1 t q => by
  unfold rReprD3 at t
  split at t
  · obtain ⟨v, rfl, p⟩ := rds1 p1
    exact ⟨v, _, rfl, dp_mono r0.sub _ _ p, t.1, q.str r0 t.2⟩
  · exact t.elim
end
/-! ### defs whose promise holds in a stack that shows nothing -/
structure FnG (P : Program) (w : World) (K : PySem.W.Frag) (mg : Str → Option Value) (base : Heap) (k : Nat) (f : Addr) (fd : FuncData) (ps : List Str) (sp : L2.Sp) : Prop where
  len : ∀ vs H Q E, sp vs H Q E → vs.length = ps.length
  run : ∀ (A : Around) (outer : List Env) (s : Shared) (H : Hp) (args : Args) (us : List Value) (vs : List V) (Q : VK) (E : XK), A.guards = some [] → Room k A → Env0 P w K mg base A outer s H → BindsTo s fd args (ps.zip us) → Vals vs us → sp vs H Q E →
    codeAny (model P w) A (.call (.ref f) args) (CR CX0 outer P w H s Q E) s
section
variable {P : Program} {w : World} {K : PySem.W.Frag} {mg : Str → Option Value} {base : Heap}
theorem fnG_of {x qual : Str} {st : Stmt} {f : Addr} {fd : FuncData} {N ps : List Str} {k : Nat} {sp : L2.Sp} (F : Fun K x qual st f fd) (S : FnScope N ps (defScope st)) (len : ∀ vs H Q E, sp vs H Q E → vs.length = ps.length)
    (hbody : ∀ (cdv : Value) (A : Around) (outer : List Env) (s : Shared) (H : Hp) (vs : List V) (Q : VK) (E : XK), A.guards = some [] → Room k (A.deeper (envOfC qual (defScope st) s.heap.objs.size f cdv)) → sp vs H Q E →
      ∃ t, PSs (cxOf CX0 P w K mg base N qual (defScope st) f cdv A outer s H E).nox (defBody st) t ∧ t { nx := fun _ H' => Q .non H', rt := Q } (L2.start N vs) H) : FnG P w K mg base (k + 1) f fd ps sp := by
  obtain ⟨oc, od, kV, doc, pm, an, cdv, ct, osl, rfl, lk, hcd⟩ := F.ex
  refine ⟨len, fun A outer s H args us vs Q E hgd hr e0 hb r hsp => ?_⟩
  have old : ∀ b o, base.get? b = some o → s.heap.get? b = some o := fun b o e => (e0.bs b o e).1
  have KX : K.In s.heap := e0.mod.kin.keeps old
  have hkind : ∀ y ∈ ps.zip us, (defScope st).names.lookup y.1 = some .local ∨ ((defScope st).names.lookup y.1 = some .cell ∧ ((cellsFrom (s.heap.objs.size + 1) (defScope st).names []).lookup y.1).isSome = true) := fun y hy =>
    (S.par y.1 (List.of_mem_zip (a := y.1) (b := y.2) hy).1).imp id fun q => ⟨q, PySem.W.cellsFrom_some _ _ _ (.inl q)⟩
  refine codeAny_call_function hr.depth (KX _ _ lk) rfl S.co S.gen rfl (PySem.W.codeRec_of KX hcd) (hb _ _ _ _ (wpAny_newFunctionEnv_cells S.kind hkind fun env he s1 x => ?_))
  subst he
  refine ⟨(e0.mod.nolimit.keeps old).keeps x.toInCall.keep, codeAny_func ?_⟩
  obtain ⟨t, ht, hq⟩ := hbody cdv A outer s H vs Q E hgd (hr.deeper _) hsp
  refine wpAny_mono (ht.nox.run [] s1 (L2.start N vs) H _ (inv_start S hr.hd e0 (len _ _ _ _ hsp) r x) hq) (fun fl s' hs => ?_) fun e s' hs => hs
  cases fl with
  | ret u =>
    obtain ⟨v, σ', H', J, rv, q⟩ := hs
    exact ⟨v, H', J.os, J.bare, J.base, J.hok, rv, q⟩
  | next =>
    obtain ⟨σ', H', J, q⟩ := hs
    exact ⟨.non, H', J.os, J.bare, J.base, J.hok, rfl, q⟩
  | brk =>
    obtain ⟨_, _, _, q⟩ := hs
    exact False.elim q
  | cont =>
    obtain ⟨_, _, _, q⟩ := hs
    exact False.elim q
end
structure Ok3G (P : Program) (w : World) (K : PySem.W.Frag) (mg : Str → Option Value) (base : Heap) (k : Nat) (x : Str) (sp : Sp3) : Prop where
  ex : ∃ f fd ps, mg x = some (.ref f) ∧ PySem.W.keepIn K (.ref f) = true ∧ Binds K fd ps [] ∧ FnG P w K mg base k f fd ps (fun vs H Q _ => lowC K sp vs H Q)
section
variable {P : Program} {w : World} {K : PySem.W.Frag} {mg : Str → Option Value} {base : Heap}
theorem Ok3G.fnG {x : Str} {st : Stmt} {f : Addr} {fd : FuncData} {N ps : List Str} {k : Nat} {sp : Sp3} {t3 : TS3} (F : Fun K x x st f fd) (b : Binds K fd ps []) (sc : FnScope N ps (defScope st))
    (hlen : ∀ ds S Q, sp ds S Q → ds.length = ps.length)
    (body : ∀ (cdv : Value) (A : Around) (outer : List Env) (s : Shared) (H : Hp) (E : XK), A.guards = some [] → Room k (A.deeper (envOfC x (defScope st) s.heap.objs.size f cdv)) → QSs (cxOf CX0 P w K mg base N x (defScope st) f cdv A outer s H E).nox (defBody st) t3)
    (read : ∀ ds S Q, sp ds S Q → t3 { nx := fun _ S' => Fin3 S Q (.p .none) S', rt := Fin3 S Q } (env0 N.length ds) S) : FnG P w K mg base (k + 1) f fd ps (fun vs H Q _ => lowC K sp vs H Q) := by
  refine fnG_of F sc (fun vs H Q E h => ?_) (fun cdv A outer s H vs Q E hgd hr h => ?_)
  · obtain ⟨w3, S, ds, Q3, r, rd, hs, q⟩ := h
    rw [RepDs.length rd]
    exact hlen ds S Q3 hs
  · obtain ⟨w3, S, ds, Q3, r, rd, hs, q⟩ := h
    refine ⟨_, body cdv A outer s H E hgd hr, ?_⟩
    have fin : ∀ (w4 : W3) (v : V) (d : D) (H' : Hp) (S' : S3), Ex3 w3 w4 → Rel3 K w4 H' S' → RepD K w4 v d → Fin3 S Q3 d S' → Q v H' := fun w4 v d H' S' e4 r4 p4 ⟨L, hL, hb, h4⟩ => by
      refine q ⟨w4.al.take L, w4.h, w4.pn⟩ v d H' (S'.take L) ⟨⟨?_, e4.h⟩, e4.pn⟩ (r4.shrink L) ?_ h4
      · obtain ⟨t, ht⟩ := e4.al
        refine ⟨t.take (L - w3.al.length), ?_⟩
        show w4.al.take L = _
        rw [ht, List.take_append, List.take_of_length_le (by rw [r.len]; exact hL)]
      · cases d with
        | p d => exact p4
        | exc c => exact p4
        | loc m =>
          obtain ⟨a, h5, h6⟩ := p4
          exact ⟨a, by show (w4.al.take L)[m]? = _; rw [List.getElem?_take_of_lt hb]; exact h5, h6⟩
    exact ⟨w3, _, S, _, r, env_start rd, read ds S Q3 hs, ⟨fun w4 σ' H' env' S' e4 r4 _ h4 => fin w4 .non (.p .none) H' S' e4 r4 rep_non h4, fun w4 v d H' S' e4 r4 p4 h4 => fin w4 v d H' S' e4 r4 p4 h4,
      fun _ _ _ _ _ _ _ _ h => h.elim, fun _ _ _ _ _ _ _ _ h => h.elim⟩⟩
theorem Ok3G.mk' {x : Str} {st : Stmt} {f : Addr} {fd : FuncData} {N ps : List Str} {k : Nat} {sp : Sp3} {t3 : TS3} (F : Fun K x x st f fd) (hm : mg x = some (.ref f)) (b : Binds K fd ps []) (sc : FnScope N ps (defScope st))
    (hlen : ∀ ds S Q, sp ds S Q → ds.length = ps.length)
    (body : ∀ (cdv : Value) (A : Around) (outer : List Env) (s : Shared) (H : Hp) (E : XK), A.guards = some [] → Room k (A.deeper (envOfC x (defScope st) s.heap.objs.size f cdv)) → QSs (cxOf CX0 P w K mg base N x (defScope st) f cdv A outer s H E).nox (defBody st) t3)
    (read : ∀ ds S Q, sp ds S Q → t3 { nx := fun _ S' => Fin3 S Q (.p .none) S', rt := Fin3 S Q } (env0 N.length ds) S) : Ok3G P w K mg base (k + 1) x sp :=
  ⟨f, fd, ps, hm, F.kp, b, Ok3G.fnG F b sc hlen body read⟩
end
section
variable {X : Cx} {e : Expr} {es : List Expr} {tr : TA3} {p pos : Pos} {x : Str} {k : Nat} {sp : Sp3}
theorem run_fnG {f : Addr} {fd : FuncData} {ps : List Str} {sp : L2.Sp} {E : XK} {pins : List (Addr × Obj)} {σ : L2.St} {H : Hp} {s : Shared} {Q : VK} {us : List Value} {vs : List V} (F : FnG X.prog X.w X.K X.mg X.base k f fd ps sp) (hg : X.A.guards = some []) (hr : Room k X.A) (hb : Binds X.K fd ps [])
    (I : L2.Inv X pins σ H s) (r : Vals vs us) (h : sp vs H Q E) : wpAny (model X.prog X.w) X.A (call (.ref f) us) (EP X pins σ Q) X.xe s := by
  have hl : us.length = ps.length := by rw [← r.length]; exact F.len _ _ _ _ h
  have b := hb s us I.kIn (by rw [List.append_nil]; exact hl)
  rw [List.append_nil] at b
  refine wpAny_call (codeAny_mono (F.run X.A X.stack s H ⟨us, []⟩ us vs Q E hg hr I.env0 b r h) fun r s' hq => ?_)
  cases r with
  | error e => exact hq.elim
  | ok fl =>
    cases fl with
    | ret u => exact I.after hq
    | next => exact False.elim hq
    | brk => exact False.elim hq
    | cont => exact False.elim hq
theorem qe_callG (F : Ok3G X.prog X.w X.K X.mg X.base k x sp) (hgd : X.A.guards = some []) (hr : Room k X.A) (hg : Gl X x) (ha : QA X (e :: es) tr) (hdb : (x == ("__debug__" : Str)) = false := by decide) (he : starEach (e :: es) X.env = (false, eval e X.env) :: starEach es X.env := by rfl) (hpl : (backTo pos (starEach es X.env)).any (·.1) = false := by rfl) :
    QE X (.Call (.Name x p) (e :: es) [] pos) (tCB3 sp tr) := by
  obtain ⟨f, fd, ps, hm, kp, b, ok⟩ := F.ex
  refine ⟨fun pins s σ H Q I h => ?_⟩
  refine wpAny_Call_Name_kw (ld_glob I hg hm ?_ hdb)
  refine PySem.W.callWith_K (h₀ := X.base) I.ok.mod.kin kp (thn (ha.run pos pins s σ H (fun vs H1 => lowC X.K sp vs H1 Q) I (lowCB h)) fun us s1 ⟨vs, H1, I1, r, q⟩ => ⟨I1.kIn, ?_⟩) he hpl
  exact run_fnG (E := fun _ _ _ => False) ok hgd hr b I1 r q
end
/-! ### the law's head, in a stack that shows nothing (callerA's) -/
theorem call_headG {P : Program} {w : World} {K : PySem.W.Frag} {mg mb : Str → Option Value} {k : Nat} {fa a : Addr} {fd : FuncData} {x : Str} {sp : L2.Sp} {s₁ : Shared} {vs : List Value} {ns : List Int}
    (KX : K.In s₁.heap) (hns : s₁.heap.Ns mainGlobals mg) (hb : s₁.heap.Ns builtinsNs mb) (hbb : ∀ x : Str, x ≠ "__name__" → mb x = bootBuiltins x) (hlim : s₁.heap.NoLimit) (hg : s₁.gens = #[])
    (ha : s₁.heap.get? a = some { cls := .type "list", data := .seq vs.toArray }) (hi : IntsAre vs ns) (hl : ns.length ≤ sizeLine) (hr : Room k callerA)
    (F : ∀ base : Heap, K.In base → base.Ns mainGlobals mg → FnG P w K mg base k fa fd [x] sp) (hbind : ∀ (s : Shared) (u : Value), BindsTo s fd ⟨[u], []⟩ [(x, u)])
    (hsp : ∀ H : Hp, Only H → SqL K H a (ns.map V.int) → sp [.ref a] H (fun v _ => v = .bl true) fun _ _ _ => False) :
    codeAny (model P w) callerA (.call (.ref fa) ⟨[.ref a], []⟩) (fun r s' => r = .ok (.ret (.bool true)) ∧ OldK s₁.heap s'.heap ∧ s'.os = s₁.os ∧ AllBare s'.gens) s₁ := by
  have rv := vals_ints hi
  have lenV := hi.length
  have go : ∀ H : Hp, Only H → SqL K H a (ns.map V.int) → HOk P w H s₁.heap → (∀ b, H b ≠ none → b = a) → (H a ≠ none → K.lookup a = none) →
      codeAny (model P w) callerA (.call (.ref fa) ⟨[.ref a], []⟩) (fun r s' => r = .ok (.ret (.bool true)) ∧ OldK s₁.heap s'.heap ∧ s'.os = s₁.os ∧ AllBare s'.gens) s₁ := fun H hO hS hok hA hK => by
    have free : ∀ {b : Addr}, (b = a → False) → H b = none := fun {b} n => by
      cases q : H b with
      | none => rfl
      | some u => exact (n (hA b (by rw [q]; simp))).elim
    have nsK : ∀ {b : Addr} {m : Str → Option Value}, s₁.heap.Ns b m → (hidT s₁.heap H).Ns b m := fun {b m} ⟨o, es, ep, e, d, r⟩ => ⟨o, es, ep, hidT_get e (free fun z => by
      subst z
      rw [ha] at e
      cases e
      cases (show Data.seq vs.toArray _ = Data.dict es ep from d)), d, r⟩
    have hKb : K.In (hidT s₁.heap H) := fun b o e => hidT_get (KX b o e) (by
      cases q : H b with
      | none => rfl
      | some u =>
        have z := hA b (by rw [q]; simp)
        subst z
        rw [hK (by rw [q]; simp)] at e
        cases e)
    have hM : Mod K mg (hidT s₁.heap H) := ⟨hKb, nsK hns, ⟨mb, nsK hb, hbb⟩, let ⟨mc, h1, h2⟩ := hlim; ⟨mc, nsK h1, h2⟩⟩
    have e0 : Env0 P w K mg (hidT s₁.heap H) callerA [] s₁ H := ⟨rfl, hM, fun b o e => of_hidT e, Nat.le_of_eq (hidT_size _ _), trivial, fun b hb => absurd (show b ∈ ([] : List Addr) from hb) (by simp), hok, .of_eq hg⟩
    refine codeAny_mono ((F _ hKb (nsK hns)).run callerA [] s₁ H ⟨[.ref a], []⟩ [.ref a] [.ref a] _ _ rfl hr e0 (hbind s₁ (.ref a)) (.cons rfl .nil) (hsp H hO hS)) fun r s' h => ?_
    cases r with
    | error e => exact h.elim
    | ok fl =>
      cases fl with
      | next => exact False.elim h
      | brk => exact False.elim h
      | cont => exact False.elim h
      | ret u =>
        obtain ⟨v, H', os, bare, un, hok', r', q⟩ := h
        subst q
        cases r'
        refine ⟨rfl, OldK.of_keep fun b o e => ?_, os, bare⟩
        cases q : H b with
        | none => exact un.keep b o e q (by intro z; exact absurd (show b ∈ ([] : List Addr) from z) (by simp)) (by simp)
        | some u =>
          rcases hO b with z | ⟨ob, xs, z⟩
          · rw [q] at z; cases z
          · obtain ⟨e1, _⟩ := hok b _ z
            obtain ⟨e2, _⟩ := hok' b _ (un.frzs b ob _ z)
            rw [e] at e1
            cases e1
            exact e2
  cases hk : K.lookup a with
  | some o =>
    have e := KX a o hk
    rw [ha] at e
    cases e
    exact go (fun _ => none) (fun _ => .inl rfl) (.inr ⟨_, vs.toArray, _, hk, rfl, rfl, rfl, by rw [List.size_toArray, lenV]; exact hl, by simpa using rv⟩) (fun b u z => nomatch z) (fun b z => absurd rfl z) fun z => absurd rfl z
  | none =>
    refine go (upd (fun _ => none) a (.frz { cls := .type "list", data := .seq vs.toArray } (.lst (ns.map V.int)))) (fun b => ?_) (.inl (.inr ⟨{ cls := .type "list", data := .seq vs.toArray }, upd_same⟩)) (fun b u z => ?_) (fun b z => ?_) fun _ => hk
    · by_cases hb : b = a
      · subst hb
        exact .inr ⟨_, _, upd_same⟩
      · exact .inl (upd_ne hb)
    · by_cases hb : b = a
      · subst hb
        rw [upd_same] at z
        cases z
        exact ⟨ha, by rw [List.length_map]; exact hl, vs, _, rv, ha⟩
      · rw [upd_ne hb] at z
        cases z
    · by_cases hb : b = a
      · exact hb
      · exact absurd (upd_ne hb) z
theorem walk_ofG {l : PySem.W.OpenLaw} {n k : Nat} {q : Program} {loose : List Str} {XP : (Str → Option Value) → Heap → Prop} {YP : World → Heap → Prop} {d : DefRec} {K : Params → PySem.W.Frag} {sp : World → L2.Sp} {x : Str}
    (hn : l.most = some n) (hn2 : n ≤ sizeLine) (hdf : d.params.defaults = []) (hr : Room k callerA)
    (hY : ∀ (w : World) (h : Heap), YP w h → (K w.params).In h)
    (F : ∀ (w : World) (mg : Str → Option Value) (fa : Addr) (h : Heap), (K w.params).In h → h.Ns mainGlobals mg → mg d.name = some (.ref fa) →
      ∃ fd : FuncData, (∀ (s : Shared) (u : Value), BindsTo s fd ⟨[u], []⟩ [(x, u)]) ∧
        ∀ base : Heap, (K w.params).In base → base.Ns mainGlobals mg → FnG l.prog w (K w.params) mg base k fa fd [x] (sp w))
    (hsp : ∀ (w : World) (H : Hp) (a : Addr) (ns : List Int), ns.length ≤ n → Only H → SqL (K w.params) H a (ns.map V.int) → sp w [.ref a] H (fun v _ => v = .bl true) fun _ _ _ => False) :
    PySem.W.WalkO q loose XP YP l.row.toRowW d [] (fun f vs => PySem.call f vs) := by
  refine Att.attach_call hn hdf fun w s₀ s₁ mg mb fa o pm cd doc a vs ns G Y ho hd hcd hmg hobj hints hlen hg => ?_
  obtain ⟨fd, hb, hF⟩ := F w mg fa _ (hY w _ Y) G.T.g hmg
  exact call_headG (hY w _ Y) G.T.g G.T.b G.T.builtins G.T.nolimit hg hobj hints (Nat.le_trans hlen hn2) hr hF hb fun H hO hS => hsp w H a ns hlen hO hS
end L3

namespace L3
open PySem PySem.Spec PyProof.Rows L2
/-! ### == with texts -/
def rEqS3 : R3 := fun x y S Q => match x, y with
  | .p (.str a), .p (.str b) => Q (.p (.bool (decide (a = b)))) S
  | .p d, .p e => (SeqAt.shaped d = true ∧ SeqAt.shaped e = true) ∧ Q (.p (.bool (PyData.eqv d e))) S
  | _, _ => False
def rNeS3 : R3 := fun x y S Q => match x, y with
  | .p (.str a), .p (.str b) => Q (.p (.bool (!decide (a = b)))) S
  | .p d, .p e => (SeqAt.shaped d = true ∧ SeqAt.shaped e = true) ∧ Q (.p (.bool (!PyData.eqv d e))) S
  | _, _ => False
theorem dec_str {a b : Str} : decide (V.str a = V.str b) = decide (a = b) := by
  rw [Bool.eq_iff_iff]
  simp
theorem oq_eqS {X : Cx} (hu : X.A.units + 64 < cLine) : OQ X (compareOp .Eq) rEqS3 := opq (op_eq.or (op_eqD hu)) fun w S d e x y H Q R r0 p1 p2 t q => by
  unfold rEqS3 at t
  split at t
  · have := dp_str p1
    subst this
    have := dp_str p2
    subst this
    refine .inl ⟨rfl, ?_⟩
    rw [dec_str]
    exact q.bl r0 t
  · exact .inr ⟨_, _, (dp_mono r0.sub _ _ p1).sh t.1.1, (dp_mono r0.sub _ _ p2).sh t.1.2, t.1.1, t.1.2, q.bl r0 t.2⟩
  · exact t.elim
theorem oq_neS {X : Cx} (hu : X.A.units + 64 < cLine) : OQ X (compareOp .NotEq) rNeS3 := opq (op_ne.or (op_neD hu)) fun w S d e x y H Q R r0 p1 p2 t q => by
  unfold rNeS3 at t
  split at t
  · have := dp_str p1
    subst this
    have := dp_str p2
    subst this
    refine .inl ⟨rfl, ?_⟩
    rw [dec_str]
    exact q.bl r0 t
  · exact .inr ⟨_, _, (dp_mono r0.sub _ _ p1).sh t.1.1, (dp_mono r0.sub _ _ p2).sh t.1.2, t.1.1, t.1.2, q.bl r0 t.2⟩
  · exact t.elim
/-! ### data that can be shown and told apart -/
structure Shows (d : PyData) (B k : Nat) : Prop where
  ok : d.showable = true
  len : d.shown.length ≤ B
  dep : d.depth ≤ k
  lay : d.canLay0 = true
theorem Shows.le {d : PyData} {B B' k k' : Nat} (h : Shows d B k) (hb : B ≤ B') (hk : k ≤ k') : Shows d B' k' := ⟨h.ok, Nat.le_trans h.len hb, Nat.le_trans h.dep hk, h.lay⟩
theorem Shows.repr {d : PyData} {B k : Nat} (h : Shows d B k) (hb : B ≤ 16777216) (hk : k ≤ 60) : ReprOk d := ⟨h.ok, Nat.le_trans h.len hb, Nat.le_trans h.dep hk, PyData.hasDict_of_canLay _ h.lay⟩
theorem Shows.shaped {d : PyData} {B k : Nat} (h : Shows d B k) (hk : k ≤ 64) : SeqAt.shaped d = true := by
  unfold SeqAt.shaped
  rw [h.lay, decide_eq_true (Nat.le_trans h.dep hk)]
  rfl
theorem Shows.int {i : Int} (h : i.natAbs < 10 ^ 12) : Shows (.int i) 13 0 := by
  refine ⟨?_, PyData.shown_int_le h, Nat.le_refl _, rfl⟩
  simp only [PyData.showable]
  refine decide_eq_true ?_
  have := PySem.Flt.log2_lt_of (show 0 < 64 by decide) (show i.natAbs < 2 ^ 64 by omega)
  omega
theorem shows_all {B k : Nat} : ∀ {ds : List PyData}, (∀ x ∈ ds, Shows x B k) → PyData.showableAll ds = true ∧ ((PyData.shownAll ds).map (·.length)).sum ≤ ds.length * B ∧ (PyData.shownAll ds).length = ds.length ∧ PyData.depthAll ds ≤ k ∧ PyData.canLayAll0 ds = true
  | [], _ => by simp [PyData.showableAll, PyData.shownAll, PyData.depthAll, PyData.canLayAll0]
  | d :: ds, h => by
    obtain ⟨h1, h2, h3, h4, h5⟩ := shows_all (ds := ds) fun x hx => h x (List.mem_cons_of_mem _ hx)
    have h0 := h d List.mem_cons_self
    refine ⟨?_, ?_, ?_, ?_, ?_⟩
    · simp only [PyData.showableAll, h0.ok, h1, Bool.and_self]
    · simp only [PyData.shownAll, List.map_cons, List.sum_cons, List.length_cons]
      have := h0.len
      rw [Nat.add_mul]
      omega
    · simp only [PyData.shownAll, List.length_cons, h3]
    · simp only [PyData.depthAll]
      exact Nat.max_le.mpr ⟨h0.dep, h4⟩
    · simp only [PyData.canLayAll0, h0.lay, h5, Bool.and_self]
theorem Shows.tup {ds : List PyData} {B k n : Nat} (h : ∀ x ∈ ds, Shows x B k) (hn : ds.length ≤ n) : Shows (.tuple ds) (n * (B + 2) + 3) (k + 1) := by
  obtain ⟨h1, h2, h3, h4, h5⟩ := shows_all h
  refine ⟨?_, ?_, ?_, ?_⟩
  · simp only [PyData.showable]; exact h1
  · simp only [PyData.shown]
    refine Nat.le_trans (tupleText_len_le _) ?_
    rw [h3]
    have : ds.length * B ≤ n * B := Nat.mul_le_mul_right _ hn
    have e : n * (B + 2) = n * B + n * 2 := Nat.mul_add ..
    omega
  · simp only [PyData.depth]; omega
  · simp only [PyData.canLay0]; exact h5
theorem Shows.lst {ds : List PyData} {B k n : Nat} (h : ∀ x ∈ ds, Shows x B k) (hn : ds.length ≤ n) : Shows (.list ds) (n * (B + 2) + 3) (k + 1) := by
  obtain ⟨h1, h2, h3, h4, h5⟩ := shows_all h
  refine ⟨?_, ?_, ?_, ?_⟩
  · simp only [PyData.showable]; exact h1
  · simp only [PyData.shown]
    refine Nat.le_trans (listText_len_le _) ?_
    rw [h3]
    have : ds.length * B ≤ n * B := Nat.mul_le_mul_right _ hn
    have e : n * (B + 2) = n * B + n * 2 := Nat.mul_add ..
    omega
  · simp only [PyData.depth]; omega
  · simp only [PyData.canLay0]; exact h5
/-- a tuple of ints -/
def tupI (ns : List Int) : PyData := .tuple (ns.map PyData.int)
theorem shows_tupI {ns : List Int} {n : Nat} (h : ∀ x ∈ ns, x.natAbs < 10 ^ 12) (hn : ns.length ≤ n) : Shows (tupI ns) (n * 15 + 3) 1 :=
  Shows.tup (B := 13) (k := 0) (fun x hx => by
    obtain ⟨i, hi, rfl⟩ := List.mem_map.mp hx
    exact Shows.int (h i hi)) (by rw [List.length_map]; exact hn)
mutual
theorem eqv_self : ∀ d : PyData, d.canLay0 = true → PyData.eqv d d = true
  | .none, _ => by simp only [PyData.eqv]
  | .bool b, _ => by simp [PyData.eqv]
  | .int i, _ => by simp [PyData.eqv]
  | .str x, _ => by simp [PyData.eqv]
  | .list ds, h => by simp only [PyData.eqv]; exact eqv_selfs ds (by simpa only [PyData.canLay0] using h)
  | .tuple ds, h => by simp only [PyData.eqv]; exact eqv_selfs ds (by simpa only [PyData.canLay0] using h)
  | .dict kvs, h => by simp [PyData.canLay0] at h
theorem eqv_selfs : ∀ ds : List PyData, PyData.canLayAll0 ds = true → PyData.eqvAll ds ds = true
  | [], _ => by simp only [PyData.eqvAll]
  | d :: ds, h => by
    simp only [PyData.canLayAll0, Bool.and_eq_true] at h
    simp only [PyData.eqvAll, eqv_self d h.1, eqv_selfs ds h.2, Bool.and_self]
end
theorem eqvAll_ints : ∀ a b : List Int, PyData.eqvAll (a.map PyData.int) (b.map PyData.int) = decide (a = b)
  | [], [] => by simp [PyData.eqvAll]
  | [], _ :: _ => by simp [PyData.eqvAll]
  | _ :: _, [] => by simp [PyData.eqvAll]
  | x :: a, y :: b => by
    simp only [List.map_cons, PyData.eqvAll, eqv_int, eqvAll_ints a b]
    rw [Bool.eq_iff_iff]
    simp
theorem eqv_tupI (a b : List Int) : PyData.eqv (tupI a) (tupI b) = decide (a = b) := by
  unfold tupI
  simp only [PyData.eqv]
  exact eqvAll_ints a b
/-! ### targets, for readings -/
theorem bind3_nm (i : Nat) (d : PyData) (env : E3) : bind3 (.nm i) d env = some (set3 env i (.p d)) := by unfold bind3; rfl
theorem bind3_tup (ts : Tgs) (ds : List PyData) (env : E3) : bind3 (.tup ts) (.tuple ds) env = binds3 ts ds env := by unfold bind3; rfl
theorem binds3_nil (env : E3) : binds3 .nil [] env = some env := by unfold binds3; rfl
theorem binds3_cons (t : Tg) (r : Tgs) (d : PyData) (ds : List PyData) (env : E3) : binds3 (.cons t r) (d :: ds) env = match bind3 t d env with
    | some env1 => binds3 r ds env1
    | none => none := by
  cases h : bind3 t d env <;> simp [binds3, h]
end L3

namespace L3
open PySem PySem.Spec PyProof.Rows L2
/-! ### sum of a tuple of ints -/
section
variable {X : Cx}
theorem cr_sumT (hc : X.calm = true) : CallR X (.builtin "sum") (fun vs H Q => ∃ (a : Addr) (ns : List Int), vs = [V.ref a] ∧ SqT X.K H a (ns.map V.int) ∧ Q (.int ns.sum) H) := by
  intro pins s σ H vs us Q I r h
  obtain ⟨a, ns, rfl, hs, q⟩ := h
  obtain ⟨its, rv, hl, _⟩ := I.tuple hs
  rw [Vals.ref1 r]
  have hi : IntsAre its ns := rv.ints
  obtain ⟨xs, e⟩ := hi.allInts.items
  have hn : numsOf (intItems xs).toList = ns := by rw [← e]; exact hi.numsOf
  rw [nums_intItems] at hn
  have hl' : s.heap.IsTuple a its.toArray := hl
  rw [e] at hl'
  refine PySem.W.ktm_sumG (I.ok.hd hc) hl' fun h' tk t' hk => ?_
  rw [preSum_eq, List.take_of_length_le (by simp), hn]
  exact ⟨.int _, H, I.kept hk, ⟨_, rfl⟩, q⟩
def rSumA3 : C3 := fun ds S Q => match ds with
  | [d] => match seq3 S d with
    | some es => (match allP int? es with
      | some ns => Q (.p (.int ns.sum)) S
      | none => False)
    | none => False
  | _ => False
theorem cq_sumA (hc : X.calm = true) : CQ X (.builtin "sum") rSumA3 := callq ((cr_sum hc).or (cr_sumT hc)) fun w S ds xs H Q R r0 p0 t q => by
  unfold rSumA3 at t
  split at t
  · obtain ⟨v, rfl, p⟩ := rds1 p0
    split at t
    · rename_i es h1
      split at t
      · rename_i bs h2
        obtain ⟨a, ys, rfl, hq, ha, _⟩ := seq3_low r0 p h1
        rw [allP_int h2] at ha
        rw [dp_ints ha] at hq
        rcases hq with hq | hq
        · exact .inl ⟨a, bs, rfl, hq, q.int r0 t⟩
        · exact .inr ⟨a, bs, rfl, hq, q.int r0 t⟩
      · exact t.elim
    · exact t.elim
  · exact t.elim
end
end L3

/-! ### int of a long text -/
namespace PySem.W
open PySem PySem.Calls PySem.NumText PyProof.Rows
namespace KIN
theorem wp_textL {M : Model} {A : Around} {E : Value → Shared → Prop} {s : Shared} {Q : Value → Shared → Prop} {v : Value} {text : List Nat} {n : Int} (hn : s.heap.NoDigits)
    (hs : ¬ (text.takeWhile (· != 0)).length ≤ 640) (hr : (int_private% "readNumeral") 4300 10 (text.takeWhile (· != 0)) = (int_private% "Numeral.value") n)
    (ha : ((text.takeWhile (· != 0)).length == text.length) = true) (h : Q (.int n s.toks) { s with toks := s.toks + 1 }) :
    wpAny M A ((int_private% "intFromText") v text 10) Q E s := by
  obtain ⟨hp, g, d, tk, os⟩ := s
  obtain ⟨mc, hns, hnone⟩ := hn
  have lim : ∀ {Q' : Nat → Shared → Prop}, Q' 4300 ⟨hp, g, d, tk, os⟩ → wpAny M A Builtin.intMaxStrDigits Q' E ⟨hp, g, d, tk, os⟩ := fun {Q'} q => by
    unfold Builtin.intMaxStrDigits
    refine wpAny_bind (wpAny_nsGet hns ?_)
    rw [hnone]
    exact wpAny_pure q
  repeat (any_goals (first
    | assumption
    | (with_reducible refine wpAny_ite_false (decide_eq_false hs) ?_)
    | (with_reducible refine wpAny_ite_true (decide_eq_true ha) ?_)
    | (refine lim ?_)
    | wp_step))
  all_goals (try rw [hr])
  all_goals (try dsimp only)
  repeat (any_goals (first
    | assumption
    | (with_reducible refine wpAny_ite_true (decide_eq_true ha) ?_)
    | wp_step))
end KIN
end PySem.W
namespace PySem.W
open PySem PySem.Calls PySem.NumText PyProof.Rows
namespace KIN
set_option maxHeartbeats 4000000 in
theorem meets_textL {x : PySem.Str} {u : Tok} {n : Int} (hz : x.length ≤ sizeLine) (hl : ¬ (numSeenOf x).length ≤ 640) (hn : PySem.intText? x = some n) :
    Meets (Builtin.«int.__new__» ⟨[.type "int", .str x u], []⟩) (fun _ R s => s.heap.NoDigits ∧ R (.ok (.ret (.int n s.toks))) { s with toks := s.toks + 1 }) :=
  .of_wp fun prog w A R s h => by
    obtain ⟨hp, g, d, tk, os⟩ := s
    obtain ⟨hnd, h⟩ := h
    have f1 := F.conv_sub_int
    have f2 := F.madeHere_int
    have f3 := str_int
    have f4 := str_idx
    have f5 := str_trunc
    have f6 : typeOf (.str x u) = pure (.type "str") := rfl
    have hr : (int_private% "readNumeral") 4300 10 (numSeenOf x) = (int_private% "Numeral.value") n ∧ ((numSeenOf x).length == (numTextOf x).length) = true := by
      rcases read4300 x hz with ⟨m, h1, h2, h3⟩ | ⟨h1, _⟩
      · rw [hn] at h1
        injection h1 with h1
        subst h1
        exact ⟨h3, h2⟩
      · rw [hn] at h1
        cases h1
    have hk := Hid.mk (And.intro hnd (And.intro hl hr))
    clear hl hr hn hz hnd
    repeat (any_goals (first
      | assumption
      | ((with_reducible show wpAny _ _ ((int_private% "intFromText") _ _ _) _ _ _); refine wp_textL hk.out.1 hk.out.2.1 hk.out.2.2.1 hk.out.2.2.2 ?_)
      | wp_step))
    all_goals first | exact ⟨_, rfl, h⟩ | skip
end KIN
end PySem.W
namespace L3
open PySem PySem.Spec PyProof.Rows L2 PySem.NumText
def TextN (a : Str) (n : Int) : Prop := PySem.intText? a = some n ∧ a.length ≤ 16777216 ∧ (a.length ≤ 640 ∨ ¬ (numSeenOf a).length ≤ 640)
section
variable {X : Cx}
theorem call_int_long (hnd : X.base.NoDigits) : CallR X (.type "int") (fun xs H Q => ∃ a n, xs = [.str a] ∧ TextN a n ∧ Q (.int n) H) := by
  intro pins s σ H xs us Q I rs h
  obtain ⟨a, n, rfl, ⟨hn, hl, hc⟩, h⟩ := h
  have hz : sizeLine = 16777216 := sizeLine_eq
  cases rs with
  | cons r1 rs =>
    cases rs
    obtain ⟨t, rfl⟩ := r1
    rcases hc with hc | hc
    · exact PySem.W.KIN.call_text hn hc ⟨.int n, H, I.tok _, ⟨_, rfl⟩, h⟩
    · refine PySem.call_int_1 (PySem.W.KIN.meets_textL (by omega) hc hn) ⟨hnd.keeps I.bk, ?_⟩
      exact ⟨typeIs_int _ _ _, .int n, H, I.tok _, ⟨_, rfl⟩, h⟩
/-- a text of one sign, so and so often -/
def repS (a : Str) (k : Int) : Str := ⟨(List.replicate k.toNat a.cps).foldl (· ++ ·) #[]⟩
theorem repS_list (a : Str) (k : Int) : (repS a k).cps.toList = (List.replicate k.toNat a.cps.toList).flatten := by
  unfold repS
  show ((List.replicate k.toNat a.cps).foldl (· ++ ·) #[]).toList = _
  have go : ∀ (m : Nat) (acc : Array Nat), ((List.replicate m a.cps).foldl (· ++ ·) acc).toList = acc.toList ++ (List.replicate m a.cps.toList).flatten := by
    intro m
    induction m with
    | zero => intro acc; simp
    | succ m ih =>
      intro acc
      rw [List.replicate_succ, List.foldl_cons, ih, List.replicate_succ, List.flatten_cons]
      simp
  rw [go]
  simp
theorem repS_one {a : Str} {c : Nat} (h : a.cps.toList = [c]) (k : Int) : (repS a k).cps.toList = List.replicate k.toNat c := by
  rw [repS_list, h]
  induction k.toNat with
  | zero => rfl
  | succ n ih => rw [List.replicate_succ, List.flatten_cons, ih, List.replicate_succ]; rfl
theorem op_mulS : OpR X (binaryOp .Mult) (fun x y H Q => ∃ a k, x = .str a ∧ y = .int k ∧ a.length = 1 ∧ 2 ≤ k ∧ k ≤ 100000 ∧ Q (.str (repS a k)) H) := by
  intro pins s σ H x y v u Q I rx ry h
  obtain ⟨a, k, rfl, rfl, h1, h2, h3, q⟩ := h
  obtain ⟨t, rfl⟩ := rx
  obtain ⟨t', rfl⟩ := ry
  have hz : sizeLine = 16777216 := sizeLine_eq
  have hne : (k == 1 || a.length == 0) = false := by
    rw [h1]
    simp
    omega
  have hlen : (repS a k).length ≤ sizeLine := by
    obtain ⟨c, hc⟩ : ∃ c, a.cps.toList = [c] := List.length_eq_one_iff.mp (by rw [Array.length_toList]; exact h1)
    have := repS_one hc k
    have e : (repS a k).length = k.toNat := by
      show (repS a k).cps.size = _
      rw [← Array.length_toList, this, List.length_replicate]
    omega
  refine PySem.P.mul_str (by rw [decide_eq_false (by omega), decide_eq_false (by omega)]; rfl) (fun _ _ => ?_) (fun _ _ => ?_) ?_
  · rw [h1]
    have : (1 : Int) ≤ (2 ^ 63 - 1) / k := (Int.le_ediv_iff_mul_le (by omega)).mpr (by omega)
    omega
  · unfold Builtin.Str.tooLong
    rw [h1, hz]
    exact decide_eq_false (by omega)
  · rw [if_neg (by omega), if_neg (by rw [hne]; exact Bool.false_ne_true)]
    exact ⟨hlen, ⟨.str _, H, I.tok _, ⟨_, rfl⟩, q⟩⟩
def rMulS3 : R3 := fun x y S Q => match x, y with
  | .p (.str a), .p (.int k) => (a.length = 1 ∧ 2 ≤ k ∧ k ≤ 100000) ∧ Q (.p (.str (repS a k))) S
  | _, _ => False
theorem oq_mulS : OQ X (binaryOp .Mult) rMulS3 := opq op_mulS fun w S d e x y H Q R r0 p1 p2 t q => by
  unfold rMulS3 at t
  split at t
  · obtain ⟨⟨h1, h2, h3⟩, t⟩ := t
    exact ⟨_, _, dp_str p1, dp_int p2, h1, h2, h3, q.str r0 t⟩
  · exact t.elim
def rIntT3 : C3 := fun ds S Q => match ds with
  | [.p (.str a)] => ∃ n, TextN a n ∧ Q (.p (.int n)) S
  | _ => False
theorem cq_intT (hnd : X.base.NoDigits) : CQ X (.type "int") rIntT3 := callq (call_int_long hnd) fun w S ds xs H Q R r0 p1 t q => by
  unfold rIntT3 at t
  split at t
  · obtain ⟨v, rfl, p⟩ := rds1 p1
    have := dp_str p
    subst this
    obtain ⟨n, h1, t⟩ := t
    exact ⟨_, n, rfl, h1, q.int r0 t⟩
  · exact t.elim
/-- 1 and k noughts -/
theorem text_big {k : Int} (h0 : 2 ≤ k) (h1 : k ≤ 4299) : ∃ n : Int, TextN (PySem.Str.ofString "1" ++ repS (PySem.Str.ofString "0") k) n ∧ 0 < n := by
  have e0 : (repS (PySem.Str.ofString "0") k).cps.toList = List.replicate k.toNat 48 := repS_one (by decide +kernel) k
  have e : (PySem.Str.ofString "1" ++ repS (PySem.Str.ofString "0") k).cps.toList = 49 :: List.replicate k.toNat 48 := by
    show ((PySem.Str.ofString "1").cps ++ (repS (PySem.Str.ofString "0") k).cps).toList = _
    rw [Array.toList_append, e0]
    rfl
  have hl : (PySem.Str.ofString "1" ++ repS (PySem.Str.ofString "0") k).length = k.toNat + 1 := by
    show (PySem.Str.ofString "1" ++ repS (PySem.Str.ofString "0") k).cps.size = _
    rw [← Array.length_toList, e, List.length_cons, List.length_replicate]
  have ad : AllDigits (PySem.Str.ofString "1" ++ repS (PySem.Str.ofString "0") k).cps.toList := by
    rw [e]
    intro c hc
    rcases List.mem_cons.mp hc with rfl | hc
    · decide
    · rw [(List.mem_replicate.mp hc).2]
      decide
  refine ⟨_, ⟨intText_digits ad (by rw [e]; simp) (by omega), by omega, ?_⟩, ?_⟩
  · obtain ⟨_, e2⟩ := numText_signs (fun c hc => Or.inr (ad c hc))
    rw [e2, e, List.length_cons, List.length_replicate, hl]
    omega
  · rw [e]
    have := digitsVal_pos (c := 49) (cs := List.replicate k.toNat 48) (by decide)
    omega
end
/-! ### the law's head, with the digits' limit as it stands at first -/
theorem call_headD {P : Program} {w : World} {K : PySem.W.Frag} {mg mb : Str → Option Value} {k : Nat} {fa a : Addr} {fd : FuncData} {x : Str} {sp : L2.Sp} {s₁ : Shared} {vs : List Value} {ns : List Int}
    (KX : K.In s₁.heap) (hns : s₁.heap.Ns mainGlobals mg) (hb : s₁.heap.Ns builtinsNs mb) (hbb : ∀ x : Str, x ≠ "__name__" → mb x = bootBuiltins x) (hlim : s₁.heap.NoLimit) (hdg : s₁.heap.NoDigits) (hg : s₁.gens = #[])
    (ha : s₁.heap.get? a = some { cls := .type "list", data := .seq vs.toArray }) (hi : IntsAre vs ns) (hl : ns.length ≤ sizeLine) (hr : Room k callerA)
    (F : ∀ base : Heap, K.In base → base.Ns mainGlobals mg → base.NoDigits → FnG P w K mg base k fa fd [x] sp) (hbind : ∀ (s : Shared) (u : Value), BindsTo s fd ⟨[u], []⟩ [(x, u)])
    (hsp : ∀ H : Hp, Only H → SqL K H a (ns.map V.int) → sp [.ref a] H (fun v _ => v = .bl true) fun _ _ _ => False) :
    codeAny (model P w) callerA (.call (.ref fa) ⟨[.ref a], []⟩) (fun r s' => r = .ok (.ret (.bool true)) ∧ OldK s₁.heap s'.heap ∧ s'.os = s₁.os ∧ AllBare s'.gens) s₁ := by
  have rv := vals_ints hi
  have lenV := hi.length
  have go : ∀ H : Hp, Only H → SqL K H a (ns.map V.int) → HOk P w H s₁.heap → (∀ b, H b ≠ none → b = a) → (H a ≠ none → K.lookup a = none) →
      codeAny (model P w) callerA (.call (.ref fa) ⟨[.ref a], []⟩) (fun r s' => r = .ok (.ret (.bool true)) ∧ OldK s₁.heap s'.heap ∧ s'.os = s₁.os ∧ AllBare s'.gens) s₁ := fun H hO hS hok hA hK => by
    have free : ∀ {b : Addr}, (b = a → False) → H b = none := fun {b} n => by
      cases q : H b with
      | none => rfl
      | some u => exact (n (hA b (by rw [q]; simp))).elim
    have nsK : ∀ {b : Addr} {m : Str → Option Value}, s₁.heap.Ns b m → (hidT s₁.heap H).Ns b m := fun {b m} ⟨o, es, ep, e, d, r⟩ => ⟨o, es, ep, hidT_get e (free fun z => by
      subst z
      rw [ha] at e
      cases e
      cases (show Data.seq vs.toArray _ = Data.dict es ep from d)), d, r⟩
    have hKb : K.In (hidT s₁.heap H) := fun b o e => hidT_get (KX b o e) (by
      cases q : H b with
      | none => rfl
      | some u =>
        have z := hA b (by rw [q]; simp)
        subst z
        rw [hK (by rw [q]; simp)] at e
        cases e)
    have hM : Mod K mg (hidT s₁.heap H) := ⟨hKb, nsK hns, ⟨mb, nsK hb, hbb⟩, let ⟨mc, h1, h2⟩ := hlim; ⟨mc, nsK h1, h2⟩⟩
    have e0 : Env0 P w K mg (hidT s₁.heap H) callerA [] s₁ H := ⟨rfl, hM, fun b o e => of_hidT e, Nat.le_of_eq (hidT_size _ _), trivial, fun b hb => absurd (show b ∈ ([] : List Addr) from hb) (by simp), hok, .of_eq hg⟩
    refine codeAny_mono ((F _ hKb (nsK hns) (let ⟨mc, h1, h2⟩ := hdg; ⟨mc, nsK h1, h2⟩)).run callerA [] s₁ H ⟨[.ref a], []⟩ [.ref a] [.ref a] _ _ rfl hr e0 (hbind s₁ (.ref a)) (.cons rfl .nil) (hsp H hO hS)) fun r s' h => ?_
    cases r with
    | error e => exact h.elim
    | ok fl =>
      cases fl with
      | next => exact False.elim h
      | brk => exact False.elim h
      | cont => exact False.elim h
      | ret u =>
        obtain ⟨v, H', os, bare, un, hok', r', q⟩ := h
        subst q
        cases r'
        refine ⟨rfl, OldK.of_keep fun b o e => ?_, os, bare⟩
        cases q : H b with
        | none => exact un.keep b o e q (by intro z; exact absurd (show b ∈ ([] : List Addr) from z) (by simp)) (by simp)
        | some u =>
          rcases hO b with z | ⟨ob, xs, z⟩
          · rw [q] at z; cases z
          · obtain ⟨e1, _⟩ := hok b _ z
            obtain ⟨e2, _⟩ := hok' b _ (un.frzs b ob _ z)
            rw [e] at e1
            cases e1
            exact e2
  cases hk : K.lookup a with
  | some o =>
    have e := KX a o hk
    rw [ha] at e
    cases e
    exact go (fun _ => none) (fun _ => .inl rfl) (.inr ⟨_, vs.toArray, _, hk, rfl, rfl, rfl, by rw [List.size_toArray, lenV]; exact hl, by simpa using rv⟩) (fun b u z => nomatch z) (fun b z => absurd rfl z) fun z => absurd rfl z
  | none =>
    refine go (upd (fun _ => none) a (.frz { cls := .type "list", data := .seq vs.toArray } (.lst (ns.map V.int)))) (fun b => ?_) (.inl (.inr ⟨{ cls := .type "list", data := .seq vs.toArray }, upd_same⟩)) (fun b u z => ?_) (fun b z => ?_) fun _ => hk
    · by_cases hb : b = a
      · subst hb
        exact .inr ⟨_, _, upd_same⟩
      · exact .inl (upd_ne hb)
    · by_cases hb : b = a
      · subst hb
        rw [upd_same] at z
        cases z
        exact ⟨ha, by rw [List.length_map]; exact hl, vs, _, rv, ha⟩
      · rw [upd_ne hb] at z
        cases z
    · by_cases hb : b = a
      · exact hb
      · exact absurd (upd_ne hb) z
theorem walk_ofD {l : PySem.W.OpenLaw} {n k : Nat} {q : Program} {loose : List Str} {XP : (Str → Option Value) → Heap → Prop} {YP : World → Heap → Prop} {d : DefRec} {K : Params → PySem.W.Frag} {sp : World → L2.Sp} {x : Str}
    (hn : l.most = some n) (hn2 : n ≤ sizeLine) (hdf : d.params.defaults = []) (hr : Room k callerA)
    (hY : ∀ (w : World) (h : Heap), YP w h → (K w.params).In h)
    (F : ∀ (w : World) (mg : Str → Option Value) (fa : Addr) (h : Heap), (K w.params).In h → h.Ns mainGlobals mg → mg d.name = some (.ref fa) →
      ∃ fd : FuncData, (∀ (s : Shared) (u : Value), BindsTo s fd ⟨[u], []⟩ [(x, u)]) ∧
        ∀ base : Heap, (K w.params).In base → base.Ns mainGlobals mg → base.NoDigits → FnG l.prog w (K w.params) mg base k fa fd [x] (sp w))
    (hsp : ∀ (w : World) (H : Hp) (a : Addr) (ns : List Int), ns.length ≤ n → Only H → SqL (K w.params) H a (ns.map V.int) → sp w [.ref a] H (fun v _ => v = .bl true) fun _ _ _ => False) :
    PySem.W.WalkO q loose XP YP l.row.toRowW d [] (fun f vs => PySem.call f vs) := by
  refine Att.attach_call hn hdf fun w s₀ s₁ mg mb fa o pm cd doc a vs ns G Y ho hd hcd hmg hobj hints hlen hg => ?_
  obtain ⟨fd, hb, hF⟩ := F w mg fa _ (hY w _ Y) G.T.g hmg
  exact call_headD (hY w _ Y) G.T.g G.T.b G.T.builtins G.T.nolimit G.T.nodigits hg hobj hints (Nat.le_trans hlen hn2) hr hF hb fun H hO hS => hsp w H a ns hlen hO hS
end L3

namespace L3
open PySem PySem.Spec PyProof.Rows L2
/-! ### xs.extend(new list) -/
def tExt3 (to : TE3) (tn : TN3) : TE3 := fun env S Q => to env S fun o S1 => match own3 S1 o with
  | some _ => tn env S1 fun es S2 => match own3 S2 o with
    | some (n, ds) => ds.length + es.length ≤ 16777216 ∧ Q (.p .none) (S2.set n (some (.lst (ds ++ es))))
    | none => False
  | none => False
section
variable {X : Cx} {o e : Expr} {to te : TE3} {tn : TN3} {apos cpos pos : Pos}
theorem qe_extend (ho : QE X o to) (he : QN X e tn) (hbase : attributeBase o "extend" X.env (eval o X.env) = eval o X.env := by rfl)
    (hfew : ((backTo cpos (starEach [e] X.env)).all (fun x => !x.1) && (backToKw cpos (keywordEach [] X.env)).all (fun x => x.1.isSome)
      && decide (([e] : List Expr).length + ([] : List Keyword).length + (if ([] : List Keyword).isEmpty then 0 else 1) < 30)) = true := by rfl)
    (hline : (apos.endLine == cpos.line) = true := by rfl) (hs : starEach [e] X.env = (false, eval e X.env) :: starEach [] X.env := by rfl) (hplain : (backTo cpos (starEach [] X.env)).any (·.1) = false := by rfl) :
    QE X (.Call (.Attribute o "extend" apos) [e] [] cpos) (tExt3 to tn) :=
  (pe_bm PySem.F.plainAttrs_list PySem.F.slot_list_extend PySem.F.type_list_extend mt_extend ho (pa_cons he pa_nil hs) hbase hfew hline hs hplain).imp fun σ H R ⟨w, env, S, Q, r0, en, t, q⟩ => by
    have hz : sizeLine = 16777216 := sizeLine_eq
    refine ⟨w, env, S, _, r0, en, t, fun w1 v d H1 S1 e1 r1 p1 t1 => ?_⟩
    split at t1
    · rename_i nd ho1
      obtain ⟨n0, ds0⟩ := nd
      obtain ⟨a0, xs0, rfl, hd0, _, _, hu0, _, _⟩ := own3_low r1 p1 ho1
      refine ⟨.inl ⟨rfl, xs0, .inl (.inl hu0)⟩, ?_⟩
      refine ⟨w1, env, S1, _, r1, en.mono e1, t1, fun w2 b zs es H2 S2 e2 r2 hn hzs hzl t2 => ?_⟩
      split at t2
      · rename_i n ds ho2
        obtain ⟨a, xs, hva, rfl, ha, hs, hu, hd, hzz⟩ := own3_low r2 (p1.mono e2) ho2
        cases hva
        have hl := DpAll.length hd
        have hl2 := DpAll.length hzs
        obtain ⟨r3, e3⟩ := r2.frz (u := .lst zs) hn (by show zs.length ≤ _; omega)
        have hne : a0 ≠ b := fun z => by rw [z, hn] at hu; cases hu
        refine ⟨_, b, xs, zs, rfl, rfl, by rw [upd_ne hne]; exact hu, upd_same, by omega, ?_⟩
        exact q _ .non (.p .none) _ _ ((e1.trans e2).trans e3) (r3.put (o' := .lst (ds ++ es)) ha hs ⟨_, rfl, DpAll.append (dpAll_mono e3.h _ _ hd) (dpAll_mono e3.h _ _ hzs), by rw [List.length_append]; omega⟩) rep_non t2.2
      · exact t2.elim
    · exact t1.elim
end
/-! ### x in data -/
def rIn3 (neg : Bool) : R3 := fun x y S Q => match x with
  | .p d => (match lst3 S y with
    | some ds => (SeqAt.shaped d = true ∧ SeqAt.shaped (.list ds) = true) ∧ Q (.p (.bool (if neg then !ds.any fun z => PyData.eqv z d else ds.any fun z => PyData.eqv z d))) S
    | none => False)
  | _ => False
theorem lst3_dp {K : PySem.W.Frag} {w : W3} {H : Hp} {S : S3} {v : V} {d : D} {ds : List PyData} (r : Rel3 K w H S) (p : RepD K w v d) (h : lst3 S d = some ds) : Dp K H v (.list ds) := by
  obtain ⟨a, xs, rfl, hq, ha, _⟩ := lst3_low r p h
  exact .lst hq (dpAll_mono r.sub _ _ ha)
theorem oq_in {X : Cx} (hu : X.A.units + 65 < cLine) : OQ X (compareOp .In) (rIn3 false) := opq (op_inD hu) fun w S d e x y H Q R r0 p1 p2 t q => by
  unfold rIn3 at t
  split at t
  · split at t
    · rename_i ds h
      exact ⟨_, ds, (dp_mono r0.sub _ _ p1).sh t.1.1, (lst3_dp r0 p2 h).sh t.1.2, t.1.1, t.1.2, q.bl r0 t.2⟩
    · exact t.elim
  · exact t.elim
theorem oq_notin {X : Cx} (hu : X.A.units + 65 < cLine) : OQ X (compareOp .NotIn) (rIn3 true) := opq (op_notInD hu) fun w S d e x y H Q R r0 p1 p2 t q => by
  unfold rIn3 at t
  split at t
  · split at t
    · rename_i ds h
      exact ⟨_, ds, (dp_mono r0.sub _ _ p1).sh t.1.1, (lst3_dp r0 p2 h).sh t.1.2, t.1.1, t.1.2, q.bl r0 t.2⟩
    · exact t.elim
  · exact t.elim
/-! ### sorted(ints) -/
def insI (x : Int) : List Int → List Int
  | [] => [x]
  | y :: ys => if x ≤ y then x :: y :: ys else y :: insI x ys
def sortI : List Int → List Int
  | [] => []
  | x :: xs => insI x (sortI xs)
def tSortedI3 (te : TE3) : TN3 := fun env S Q => te env S fun x S1 => match lst3 S1 x with
  | some ds => (match allP int? ds with
    | some ns => ∀ ms : List Int, ms.Perm ns → ms.Pairwise (· ≤ ·) → Q (ms.map PyData.int) S1
    | none => False)
  | none => False
section
variable {X : Cx} {e : Expr} {te : TE3} {p pos : Pos}
theorem qn_sortedI (hg : Gl X "sorted") (hm : X.mg "sorted" = none) (ha : QE X e te) (hs : starEach [e] X.env = (false, eval e X.env) :: starEach [] X.env := by rfl) (hpl : (backTo pos (starEach [] X.env)).any (·.1) = false := by rfl) :
    QN X (.Call (.Name "sorted" p) [e] [] pos) (tSortedI3 te) := L2.PE.imp (pe_callB cr_sortedI hg hm (by decide +kernel) (pa_cons ha pa_nil hs) (by decide) (by decide) hs hpl) fun σ H R ⟨w, env, S, Q, r0, en, t, q⟩ => by
  refine ⟨w, env, S, _, r0, en, t, fun w1 v d H1 S1 e1 r1 p1 t1 => ?_⟩
  split at t1
  · rename_i ds h1
    split at t1
    · rename_i ns h2
      obtain ⟨a, xs, rfl, hq, ha, hz⟩ := lst3_low r1 p1 h1
      have hz' : ds.length ≤ sizeLine := hz
      rw [allP_int h2] at ha hz'
      rw [dp_ints ha] at hq
      refine ⟨a, ns, rfl, hq, fun ms p hp hw hn => ?_⟩
      exact q w1 p (ms.map V.int) (ms.map PyData.int) H1 S1 e1 r1 hn (dpAll_ints ms) (by rw [List.length_map, hp.length_eq]; simpa using hz') (t1 ms hp hw)
    · exact t1.elim
  · exact t1.elim
end
/-! ### x op= e, ints -/
def tAug3 (i : Nat) (r : R3) (te : TE3) : TS3 := fun D env S => match at3 env i with
  | some x => te env S fun y S1 => r x y S1 fun z S2 => D.nx (set3 env i z) S2
  | none => False
def rIp3 (C : Int → Int → Prop) (f : Int → Int → Int) : R3 := rInt C fun i j => .int (f i j)
section
variable {X : Cx} {e : Expr} {te : TE3} {pos : Pos}
theorem ip_fdiv : PIp X .FloorDiv (fun x y H Q => ∃ i j, x = .int i ∧ y = .int j ∧ CDivW i j ∧ Q (.int (i / j)) H) := by
  intro pins s σ H x y v u Q I r1 r2 h
  obtain ⟨i, j, rfl, rfl, hc, q⟩ := h
  obtain ⟨t, rfl⟩ := r1
  obtain ⟨t', rfl⟩ := r2
  have h1 : (0 : Int) < j := hc.1
  refine PySem.AutoIntOps.ifloordiv_1 (by simp; omega) (by rw [Bool.not_eq_true]; exact PyProof.noPylong_of_log2 hc.2) ?_
  rw [Int.fdiv_eq_ediv_of_nonneg i (by omega)]
  exact ⟨.int _, H, I.tok _, ⟨_, rfl⟩, q⟩
theorem low_aug {K : PySem.W.Frag} {i : Nat} {r : R3} {tip : TIp} (hi : ∀ x y H R, lowR K r x y H R → tip x y H R) {D : Ends} {σ : L2.St} {H : Hp} (h : lowS K (tAug3 i r te) D σ H) : L2.tAug i (low K te) tip D σ H := by
  obtain ⟨w, env, S, D3, r0, en, t, q⟩ := h
  unfold tAug3 at t
  split at t
  · rename_i x hx
    obtain ⟨v, hv, p0⟩ := en.2 i x hx
    refine ⟨v, hv, w, env, S, _, r0, en, t, fun w1 u y H1 S1 e1 r1 p1 t1 => ?_⟩
    refine hi _ _ _ _ ⟨w1, S1, x, y, _, r1, p0.mono e1, p1, t1, fun w2 z d2 H2 S2 e2 r2 p2 t2 => ?_⟩
    exact q.nx w2 _ H2 _ S2 (e1.trans e2) r2 (((en.mono e1).mono e2).set i p2) t2
  · exact t.elim
theorem qs_aug {i : Nat} {x : Str} {op : Operator} {r : R3} {tip : TIp} {pos' : Pos} (hN : X.N.Nodup) (hi : X.N[i]? = some x) (hx : Loc X.env.scope x) (he : QE X e te) (ho : PIp X op tip ∧ ∀ x y H R, lowR X.K r x y H R → tip x y H R) (hf : X.fn x = true ∨ X.env.scope.names.lookup x = some .local := by first | exact .inl rfl | exact .inr rfl | assumption) :
    QS X (.AugAssign (.Name x pos') op e pos) (tAug3 i r te) := (ps_aug hN hi hx he ho.1 hf).imp fun D σ H h => low_aug ho.2 h
theorem pq_add : PIp X .Add (ipI fun i j => i + j) ∧ ∀ x y H R, lowR X.K (rInt0 fun i j => .int (i + j)) x y H R → ipI (fun i j => i + j) x y H R := ⟨ip_add, fun x y H R ⟨w, S, d, e, Q, r0, p1, p2, t, q⟩ => by
  obtain ⟨i, j, rfl, rfl, t⟩ := rint0_inv t
  exact ⟨i, j, dp_int p1, dp_int p2, q.int r0 t⟩⟩
theorem pq_sub : PIp X .Sub (ipI fun i j => i - j) ∧ ∀ x y H R, lowR X.K rSub3 x y H R → ipI (fun i j => i - j) x y H R := ⟨ip_sub, fun x y H R ⟨w, S, d, e, Q, r0, p1, p2, t, q⟩ => by
  obtain ⟨i, j, rfl, rfl, t⟩ := rint0_inv t
  exact ⟨i, j, dp_int p1, dp_int p2, q.int r0 t⟩⟩
theorem pq_div : PIp X .FloorDiv (fun x y H Q => ∃ i j, x = .int i ∧ y = .int j ∧ CDivW i j ∧ Q (.int (i / j)) H) ∧ ∀ x y H R, lowR X.K rDiv3 x y H R → (∃ i j, x = .int i ∧ y = .int j ∧ CDivW i j ∧ R (.int (i / j)) H) := ⟨ip_fdiv, fun x y H R ⟨w, S, d, e, Q, r0, p1, p2, t, q⟩ => by
  obtain ⟨i, j, rfl, rfl, hc, t⟩ := rint_inv t
  exact ⟨i, j, dp_int p1, dp_int p2, hc.log, q.int r0 t⟩⟩
end
/-! ### a def that calls itself: nothing is promised at first -/
theorem ok3_never {P : Program} {w : World} {K : PySem.W.Frag} {mg : Str → Option Value} {base : Heap} {x : Str} {st : Stmt} {f : Addr} {fd : FuncData} {ps : List Str} {k : Nat} (F : Fun K x x st f fd) (hm : mg x = some (.ref f)) (b : Binds K fd ps []) : Ok3 P w K mg base k x (fun _ _ _ => False) :=
  ⟨f, fd, ps, hm, F.kp, b, ⟨fun vs H Q E h => let ⟨_, _, _, _, _, _, q, _⟩ := h; q.elim, fun A outer s H args us vs Q E _ _ _ _ h => let ⟨_, _, _, _, _, _, q, _⟩ := h; q.elim⟩⟩
end L3

namespace L3
open PySem PySem.Spec PyProof.Rows L2
/-! ### sorted(data), any number of them -/
open PySem.W in
theorem each_zip {X : Cx} {pins : List (Addr × Obj)} {σ : L2.St} {H : Hp} {s : Shared} (I : L2.Inv X pins σ H s) : ∀ {its : List Value} {xs : List V} {ds : List PyData}, Vals xs its → DpAll X.K H xs ds →
    EachIs (fun v (b : V × PyData) => RelV b.1 v) its (xs.zip ds) ∧ EachIs (fun v (b : V × PyData) => ∃ as, Reads s.heap v b.2 as) its (xs.zip ds)
  | _, _, _, .nil, .nil => ⟨.nil, .nil⟩
  | _, _, _, .cons r rs, .cons p ps => by
    obtain ⟨h1, h2⟩ := each_zip I rs ps
    exact ⟨.cons r h1, .cons (Dp.reads I _ _ _ p r) h2⟩
open PySem.W in
theorem vals_each : ∀ {out : List Value} {bs : List (V × PyData)}, EachIs (fun v (b : V × PyData) => RelV b.1 v) out bs → Vals (bs.map (·.1)) out
  | _, _, .nil => .nil
  | _, _, .cons r rs => .cons r (vals_each rs)
theorem zip_snd : ∀ {xs : List V} {ds : List PyData}, xs.length = ds.length → (xs.zip ds).map (·.2) = ds
  | [], [], _ => rfl
  | x :: xs, d :: ds, h => by
    rw [List.zip_cons_cons, List.map_cons, zip_snd (by simpa using h)]
  | [], _ :: _, h => by cases h
  | _ :: _, [], h => by cases h
open PySem.W in
def rSortedD (K : PySem.W.Frag) : List V → Hp → VK → Prop := fun vs H Q => ∃ (a : Addr) (xs : List V) (ds : List PyData), vs = [V.ref a] ∧ SqL K H a xs ∧ DpAll K H xs ds ∧ AllAlike ds ∧ Sortable ds ∧ (∀ d ∈ ds, d.depth ≤ 60) ∧
  ∀ p, H p = none → Q (.ref p) (upd H p (.lst (((xs.zip ds).mergeSort (dataLe false Prod.snd)).map (·.1))))
open PySem.W in
theorem cr_sortedD {X : Cx} (hu : X.A.units + 64 < cLine) : CallR X (.builtin "sorted") (rSortedD X.K) := by
  intro pins s σ H vs us Q I r h
  obtain ⟨a, xs, ds, rfl, hs, hd, hal, hk, hdep, q⟩ := h
  obtain ⟨its, rv, hl, hz⟩ := I.list hs
  rw [Vals.ref1 r]
  obtain ⟨e1, e2⟩ := each_zip I rv hd
  have hlen := DpAll.length hd
  have hsnd := zip_snd hlen
  have hm : (xs.zip ds).map Prod.snd = ds := hsnd
  have hbl : (xs.zip ds).length = xs.length := by rw [List.length_zip]; omega
  refine sorted_data (bs := xs.zip ds) (enc := Prod.snd) (R := fun v (b : V × PyData) => RelV b.1 v) hl.isList e1 e2 (by rw [hm]; exact hal) (by rw [hm]; exact hk) (by rw [hbl]; exact hz) (fun b hb => ?_) fun out ho hR => ?_
  · have : b.2 ∈ ds := by
      rw [← hm]
      exact List.mem_map.mpr ⟨b, hb, rfl⟩
    have := hdep _ this
    omega
  · obtain ⟨ep, he'⟩ := PyProof.Rows.sortedAll_at s.heap its out.toArray
    have hl2 : (((xs.zip ds).mergeSort (dataLe false Prod.snd)).map (·.1)).length ≤ sizeLine := by
      rw [List.length_map, List.length_mergeSort, hbl]
      exact hz
    exact ⟨.ref _, upd H (s.heap.objs.size + 1) (.lst (((xs.zip ds).mergeSort (dataLe false Prod.snd)).map (·.1))), I.laid (t' := s.toks) (fun _ _ => PyProof.Rows.sortedAll_old) (Nat.le_succ _) ⟨hl2, out, ep, vals_each hR, he'⟩, rfl, q _ (I.hok.fresh (Nat.le_succ _))⟩
/-- the data in order -/
def sortD (ds : List PyData) : List PyData := ds.mergeSort (PySem.W.dataLe false id)
theorem zip_dp {K : PySem.W.Frag} {h : Hp} : ∀ {xs : List V} {ds : List PyData}, DpAll K h xs ds → ∀ p ∈ xs.zip ds, Dp K h p.1 p.2
  | _, _, .nil, p, hp => by cases hp
  | _, _, .cons r rs, p, hp => by
    rcases List.mem_cons.mp hp with rfl | hp
    · exact r
    · exact zip_dp rs p hp
theorem dp_unzip {K : PySem.W.Frag} {h : Hp} : ∀ {ps : List (V × PyData)}, (∀ p ∈ ps, Dp K h p.1 p.2) → DpAll K h (ps.map (·.1)) (ps.map (·.2))
  | [], _ => .nil
  | p :: ps, hp => .cons (hp p List.mem_cons_self) (dp_unzip fun q hq => hp q (List.mem_cons_of_mem _ hq))
def tSortedD3 (te : TE3) : TN3 := fun env S Q => te env S fun x S1 => match lst3 S1 x with
  | some ds => (PySem.W.AllAlike ds ∧ PySem.W.Sortable ds ∧ ∀ d ∈ ds, d.depth ≤ 60) ∧ Q (sortD ds) S1
  | none => False
theorem qn_sortedD {X : Cx} {e : Expr} {te : TE3} {p pos : Pos} (hu : X.A.units + 64 < cLine) (hg : Gl X "sorted") (hm : X.mg "sorted" = none) (ha : QE X e te) (hs : starEach [e] X.env = (false, eval e X.env) :: starEach [] X.env := by rfl) (hpl : (backTo pos (starEach [] X.env)).any (·.1) = false := by rfl) :
    QN X (.Call (.Name "sorted" p) [e] [] pos) (tSortedD3 te) := L2.PE.imp (pe_callB (cr_sortedD hu) hg hm (by decide +kernel) (pa_cons ha pa_nil hs) (by decide) (by decide) hs hpl) fun σ H R ⟨w, env, S, Q, r0, en, t, q⟩ => by
  refine ⟨w, env, S, _, r0, en, t, fun w1 v d H1 S1 e1 r1 p1 t1 => ?_⟩
  split at t1
  · rename_i ds h1
    obtain ⟨a, xs, rfl, hq, hd, hz⟩ := lst3_low r1 p1 h1
    have hlen := DpAll.length hd
    obtain ⟨⟨c1, c2, c3⟩, t1⟩ := t1
    refine ⟨a, xs, ds, rfl, hq, dpAll_mono r1.sub _ _ hd, c1, c2, c3, fun p hn => ?_⟩
    have hsnd : ((xs.zip ds).mergeSort (PySem.W.dataLe false Prod.snd)).map (·.2) = sortD ds := by
      have e := List.map_mergeSort (f := fun x : V × PyData => x.2) (r := PySem.W.dataLe false Prod.snd) (s := PySem.W.dataLe false id) (l := xs.zip ds) (fun _ _ _ _ => rfl)
      unfold sortD
      rw [e, zip_snd hlen]
    refine q w1 p _ (sortD ds) H1 S1 e1 r1 hn ?_ ?_ t1
    · rw [← hsnd]
      exact dp_unzip fun p hp => zip_dp hd p (List.mem_mergeSort.mp hp)
    · unfold sortD
      rw [List.length_mergeSort]
      exact hz
  · exact t1.elim
end L3

namespace L3
open PySem PySem.Spec PyProof.Rows L2
/-! ### < and <= of data of one shape -/
def LtOk (d e : PyData) : Prop := PySem.W.alike d e = true ∧ d ≠ .none ∧ d.depth ≤ 60
def rLtD3 : R3 := fun x y S Q => match x, y with
  | .p (.int i), .p (.int j) => Q (.p (.bool (decide (i < j)))) S
  | .p d, .p e => LtOk d e ∧ Q (.p (.bool (PySem.W.dataLt d e))) S
  | _, _ => False
theorem op_ltD {X : Cx} (hu : X.A.units + 64 < cLine) : OpR X (compareOp .Lt) (fun x y H Q => ∃ d e, Dp X.K H x d ∧ Dp X.K H y e ∧ LtOk d e ∧ Q (.bl (PySem.W.dataLt d e)) H) := by
  intro pins s σ H x y v u Q I rx ry h
  obtain ⟨d, e, hd, he, ⟨h1, h2, h3⟩, q⟩ := h
  obtain ⟨as, r1⟩ := Dp.reads I d x v hd rx
  obtain ⟨bs, r2⟩ := Dp.reads I e y u he ry
  exact PySem.W.rcLt_alike d e X.A s v u as bs r1 r2 h1 h2 (by omega) X.prog X.w X.xe _ ⟨.bl _, H, I, rfl, q⟩
theorem oq_ltD {X : Cx} (hu : X.A.units + 64 < cLine) : OQ X (compareOp .Lt) rLtD3 := opq (op_lt.or (op_ltD hu)) fun w S d e x y H Q R r0 p1 p2 t q => by
  unfold rLtD3 at t
  split at t
  · exact .inl ⟨_, _, dp_int p1, dp_int p2, q.bl r0 t⟩
  · exact .inr ⟨_, _, dp_mono r0.sub _ _ p1, dp_mono r0.sub _ _ p2, t.1, q.bl r0 t.2⟩
  · exact t.elim
end L3

namespace L3
open PySem PySem.Spec PyProof.Rows L2
/-! ### list(range(..)), tuple(range(..)), range with a step -/
theorem dp_rg {K : PySem.W.Frag} {h : Hp} (a b : Int) : DpAll K h (rgV a b) (rng a (b - a).toNat) := by
  unfold rgV rng
  induction List.range (b - a).toNat with
  | nil => exact .nil
  | cons x xs ih => exact .cons (.int _) ih
def tRgA3 (te : TE3) (k : Int → Int → S3 → Prop) : E3 → S3 → Prop := fun env S => te env S fun x S1 => match x with
  | .p (.int n) => (0 ≤ n ∧ n ≤ 16777216) ∧ k 0 n S1
  | _ => False
def tRgB3 (ta tb : TE3) (k : Int → Int → S3 → Prop) : E3 → S3 → Prop := fun env S => ta env S fun x S1 => tb env S1 fun y S2 => match x, y with
  | .p (.int a), .p (.int b) => (0 ≤ a ∧ a ≤ 16777216 ∧ 0 ≤ b ∧ b ≤ 16777216) ∧ k a b S2
  | _, _ => False
def tLstRgA (te : TE3) : TN3 := fun env S Q => tRgA3 te (fun a b S1 => Q (rng a (b - a).toNat) S1) env S
def tLstRgB (ta tb : TE3) : TN3 := fun env S Q => tRgB3 ta tb (fun a b S1 => Q (rng a (b - a).toNat) S1) env S
def tTupRgA (te : TE3) : TE3 := fun env S Q => tRgA3 te (fun a b S1 => Q (.p (.tuple (rng a (b - a).toNat))) S1) env S
def tTupRgB (ta tb : TE3) : TE3 := fun env S Q => tRgB3 ta tb (fun a b S1 => Q (.p (.tuple (rng a (b - a).toNat))) S1) env S
section
variable {X : Cx} {a b : Expr} {ta tb : TE3} {p p2 pos pos2 : Pos}
theorem qn_listRgA (hc : X.calm = true) (hg : Gl X "list") (hm : X.mg "list" = none) (hg2 : Gl X "range") (hm2 : X.mg "range" = none) (ha : QE X a ta) (na : starEach [a] X.env = (false, eval a X.env) :: starEach [] X.env := by rfl)
    (nb : starEach [.Call (.Name "range" p2) [a] [] pos2] X.env = (false, eval (.Call (.Name "range" p2) [a] [] pos2) X.env) :: starEach [] X.env := by rfl) :
    QN X (.Call (.Name "list" p) [.Call (.Name "range" p2) [a] [] pos2] [] pos) (tLstRgA ta) := L2.PE.imp (pe_listRg hc hg hm (prg_1 hg2 hm2 ha na) nb) fun σ H R ⟨w, env, S, Q, r0, en, t, q⟩ => by
  have hz : sizeLine = 16777216 := sizeLine_eq
  refine ⟨w, env, S, _, r0, en, t, fun w1 v d H1 S1 e1 r1 p1 t1 => ?_⟩
  split at t1
  · rename_i n
    obtain ⟨⟨h0, h1⟩, t1⟩ := t1
    refine ⟨n, dp_int p1, RgOk.of_le (by omega) h1 (by omega) h0, fun l hn => ?_⟩
    exact q w1 l _ _ H1 S1 e1 r1 hn (dp_rg 0 n) (by rw [rng_len]; omega) t1
  · exact t1.elim
theorem qn_listRgB (hc : X.calm = true) (hg : Gl X "list") (hm : X.mg "list" = none) (hg2 : Gl X "range") (hm2 : X.mg "range" = none) (ha : QE X a ta) (hb : QE X b tb)
    (na : starEach [a, b] X.env = (false, eval a X.env) :: starEach [b] X.env := by rfl) (nab : starEach [b] X.env = (false, eval b X.env) :: starEach [] X.env := by rfl) (hpb : (backTo pos2 (starEach [b] X.env)).any (·.1) = false := by rfl)
    (nb : starEach [.Call (.Name "range" p2) [a, b] [] pos2] X.env = (false, eval (.Call (.Name "range" p2) [a, b] [] pos2) X.env) :: starEach [] X.env := by rfl) :
    QN X (.Call (.Name "list" p) [.Call (.Name "range" p2) [a, b] [] pos2] [] pos) (tLstRgB ta tb) := L2.PE.imp (pe_listRg hc hg hm (prg_2 hg2 hm2 ha hb na nab hpb) nb) fun σ H R ⟨w, env, S, Q, r0, en, t, q⟩ => by
  have hz : sizeLine = 16777216 := sizeLine_eq
  refine ⟨w, env, S, _, r0, en, t, fun w1 v d H1 S1 e1 r1 p1 t1 => ?_⟩
  refine ⟨w1, env, S1, _, r1, en.mono e1, t1, fun w2 u e H2 S2 e2 r2 p2 t2 => ?_⟩
  split at t2
  · rename_i m n
    obtain ⟨⟨h0, h1, h2, h3⟩, t2⟩ := t2
    refine ⟨m, n, dp_int (p1.mono e2), dp_int p2, RgOk.of_le h0 h3 h1 h2, fun l hn => ?_⟩
    exact q w2 l _ _ H2 S2 (e1.trans e2) r2 hn (dp_rg m n) (by rw [rng_len]; omega) t2
  · exact t2.elim
theorem qe_tupRgA (hc : X.calm = true) (hg : Gl X "tuple") (hm : X.mg "tuple" = none) (hg2 : Gl X "range") (hm2 : X.mg "range" = none) (ha : QE X a ta) (na : starEach [a] X.env = (false, eval a X.env) :: starEach [] X.env := by rfl)
    (nb : starEach [.Call (.Name "range" p2) [a] [] pos2] X.env = (false, eval (.Call (.Name "range" p2) [a] [] pos2) X.env) :: starEach [] X.env := by rfl) :
    QE X (.Call (.Name "tuple" p) [.Call (.Name "range" p2) [a] [] pos2] [] pos) (tTupRgA ta) := L2.PE.imp (pe_tupRg hc hg hm (prg_1 hg2 hm2 ha na) nb) fun σ H R ⟨w, env, S, Q, r0, en, t, q⟩ => by
  have hz : sizeLine = 16777216 := sizeLine_eq
  refine ⟨w, env, S, _, r0, en, t, fun w1 v d H1 S1 e1 r1 p1 t1 => ?_⟩
  split at t1
  · rename_i n
    obtain ⟨⟨h0, h1⟩, t1⟩ := t1
    exact ⟨n, dp_int p1, RgOk.of_le (by omega) h1 (by omega) h0, (q.mono e1).tup r1 (dp_rg 0 n) (by rw [rng_len]; omega) t1⟩
  · exact t1.elim
theorem qe_tupRgB (hc : X.calm = true) (hg : Gl X "tuple") (hm : X.mg "tuple" = none) (hg2 : Gl X "range") (hm2 : X.mg "range" = none) (ha : QE X a ta) (hb : QE X b tb)
    (na : starEach [a, b] X.env = (false, eval a X.env) :: starEach [b] X.env := by rfl) (nab : starEach [b] X.env = (false, eval b X.env) :: starEach [] X.env := by rfl) (hpb : (backTo pos2 (starEach [b] X.env)).any (·.1) = false := by rfl)
    (nb : starEach [.Call (.Name "range" p2) [a, b] [] pos2] X.env = (false, eval (.Call (.Name "range" p2) [a, b] [] pos2) X.env) :: starEach [] X.env := by rfl) :
    QE X (.Call (.Name "tuple" p) [.Call (.Name "range" p2) [a, b] [] pos2] [] pos) (tTupRgB ta tb) := L2.PE.imp (pe_tupRg hc hg hm (prg_2 hg2 hm2 ha hb na nab hpb) nb) fun σ H R ⟨w, env, S, Q, r0, en, t, q⟩ => by
  have hz : sizeLine = 16777216 := sizeLine_eq
  refine ⟨w, env, S, _, r0, en, t, fun w1 v d H1 S1 e1 r1 p1 t1 => ?_⟩
  refine ⟨w1, env, S1, _, r1, en.mono e1, t1, fun w2 u e H2 S2 e2 r2 p2 t2 => ?_⟩
  split at t2
  · rename_i m n
    obtain ⟨⟨h0, h1, h2, h3⟩, t2⟩ := t2
    exact ⟨m, n, dp_int (p1.mono e2), dp_int p2, RgOk.of_le h0 h3 h1 h2, ((q.mono e1).mono e2).tup r2 (dp_rg m n) (by rw [rng_len]; omega) t2⟩
  · exact t2.elim
end
end L3

/-! ### t[::-1] of a tuple, xs[::-1] of a list -/
namespace L3
open PySem PySem.Spec PyProof.Rows L2
section
variable {prog : Program} {w : World} {A : Around} {E : Value → Shared → Prop} {s : Shared}
theorem sliceApplied_rev {sl : Addr} {vl vu vs : Value} {n : Nat} {Q : Int × Int × Nat → Shared → Prop} (hs : s.heap.IsSliceOf sl vl vu vs) (pl : IsPart vl none) (pu : IsPart vu none) (ps : IsPart vs (some (-1)))
    (h : Q ((n : Int) - 1, -1, n) s) : wpAny (model prog w) A (Builtin.Slice.sliceApplied (.ref sl) (pure (n : Int))) Q E s := by
  obtain ⟨os, hos, hcs, hds⟩ := id hs
  unfold Builtin.Slice.sliceApplied Builtin.Slice.sliceFields
  refine wpAny_bind (wpAny_bind (wpAny_field hos hds (x := vl) rfl (wpAny_bind (wpAny_field hos hds (x := vu) rfl (wpAny_bind (wpAny_field hos hds (x := vs) rfl (wpAny_pure ?_)))))))
  refine wpAny_bind (HT.slicePart_ ps ?_)
  show wpAny _ _ (if ((-1 : Int) == 0) = true then _ else _) _ _ s
  rw [if_neg (by decide)]
  refine wpAny_bind (HT.slicePart_ pl (wpAny_bind (HT.slicePart_ pu (wpAny_bind (wpAny_pure ?_)))))
  show wpAny _ _ (match Builtin.Slice.sliceAdjust none none (-1) (n : Int) with | (lo, hi) => pure (lo, (-1 : Int), Builtin.Slice.slicePlaces lo hi (-1))) _ _ s
  have e1 : Builtin.Slice.sliceAdjust none none (-1) (n : Int) = ((n : Int) - 1, -1) := rfl
  rw [e1]
  have e2 : Builtin.Slice.slicePlaces ((n : Int) - 1) (-1) (-1) = n := by
    unfold Builtin.Slice.slicePlaces
    rw [if_neg (by decide)]
    by_cases hn : (n : Int) - 1 > -1
    · rw [if_pos hn, show (-(-1) : Int) = 1 by decide, Int.ediv_one]
      omega
    · rw [if_neg hn]
      omega
  show wpAny _ _ (pure ((n : Int) - 1, (-1 : Int), Builtin.Slice.slicePlaces ((n : Int) - 1) (-1) (-1))) _ _ s
  rw [e2]
  exact wpAny_pure h
theorem fm_congr {α β : Type} {f g : α → Option β} : ∀ {l : List α}, (∀ k ∈ l, f k = g k) → l.filterMap f = l.filterMap g
  | [], _ => rfl
  | x :: l, h => by
    rw [List.filterMap_cons, List.filterMap_cons, h x List.mem_cons_self, fm_congr fun k hk => h k (List.mem_cons_of_mem _ hk)]
theorem rev_pick {α : Type} (xs : Array α) : (List.range xs.size).filterMap (fun (k : Nat) => xs[(((xs.size : Int) - 1) + (k : Int) * (-1)).toNat]?) = xs.toList.reverse := by
  have h : (List.range xs.size).filterMap (fun (k : Nat) => xs[(((xs.size : Int) - 1) + (k : Int) * (-1)).toNat]?) = ((List.range xs.size).map fun k => xs.size - 1 - k).filterMap (xs[·]?) := by
    rw [List.filterMap_map]
    refine fm_congr fun k hk => ?_
    have hk' := List.mem_range.mp hk
    show xs[_]? = xs[xs.size - 1 - k]?
    have e : (((xs.size : Int) - 1) + (k : Int) * (-1)).toNat = xs.size - 1 - k := by omega
    rw [e]
  rw [h]
  have e : ((List.range xs.size).map fun k => xs.size - 1 - k) = (List.range xs.size).reverse := by
    refine List.ext_getElem (by simp) fun i h1 h2 => ?_
    simp
  rw [e, List.filterMap_reverse, PySem.W.krv_all]
theorem getItem_tuple_rev {t sl : Addr} {items : Array Value} {vl vu vs : Value} {Q : Value → Shared → Prop} (ht : IsTup s.heap t items) (hs : s.heap.IsSliceOf sl vl vu vs) (pl : IsPart vl none) (pu : IsPart vu none) (ps : IsPart vs (some (-1)))
    (h : Q (.ref s.heap.objs.size) { s with heap := s.heap.push { cls := .type "tuple", data := .seq items.toList.reverse.toArray } })
    (hsz : items.size ≤ sizeLine) : wpAny (model prog w) A (getItem (.ref t) (.ref sl)) Q E s := by
  have htake : sizeOk (.seq items.toList.reverse.toArray) := by
    show items.toList.reverse.toArray.size ≤ sizeLine
    rw [List.size_toArray, List.length_reverse, Array.length_toList]
    exact hsz
  obtain ⟨os, hos, hcs, hds⟩ := id hs
  have hTs : s.TypeIs (.ref sl) "slice" := ⟨os, hos, hcs⟩
  unfold getItem
  try with_reducible refine wpAny_holding ?_
  first | refine wpAny_bind (wpAny_pure ?_) | skip
  refine wpAny_bind (wpAny_sequenceKey ht.typeIs (by decide) ?_)
  refine wpAny_bind (wpAny_callSpecial?_slot (name := Str.ofString "__getitem__") ht.typeIs PyProof.Rows.slot_tuple_getitem
    (wpAny_call_entry PyProof.Rows.slot_tuple_getitem ht.typeIs PyProof.Rows.entry_tuple_getitem ?_ (PyProof.Rows.args_tuple_getitem _ _)))
  show wpAny _ _ (Builtin.Tuple.tupleItemsOf (.ref t) >>= _) _ _ s
  refine wpAny_bind (tupleItemsOf_ ht ?_)
  refine wpAny_bind (wpAny_typeOf hTs ?_)
  rw [if_pos (by decide)]
  refine wpAny_bind (sliceApplied_rev hs pl pu ps ?_)
  have hno : ¬ ((((items.size : Int) - 1) == 0 && (-1 : Int) == 1 && items.size == items.size) = true) := by simp
  show wpAny _ _ (if (((items.size : Int) - 1) == 0 && (-1 : Int) == 1 && items.size == items.size) = true then _ else _) _ _ s
  rw [if_neg hno, rev_pick]
  first
    | exact wpAny_bind (m := Builtin.Tuple.tupleExact _) (wpAny_newObj_type (wpAny_pure ⟨_, rfl, wpAny_pure h⟩) htake)
    | exact wpAny_bind (m := Builtin.Tuple.tupleExact _) (wpAny_newObj_type (wpAny_bind (wpAny_pure (wpAny_pure ⟨_, rfl, wpAny_pure h⟩))) htake)
    | exact wpAny_bind (wpAny_bind (m := Builtin.Tuple.tupleExact _) (wpAny_newObj_type (wpAny_pure (wpAny_pure ⟨_, rfl, wpAny_pure h⟩)) htake))
    | exact wpAny_bind (wpAny_bind (m := Builtin.Tuple.tupleExact _) (wpAny_newObj_type (wpAny_pure ⟨_, rfl, wpAny_pure h⟩) htake))
end
def tRevA (K : PySem.W.Frag) (te : TE) : TE := fun σ H Q => te σ H fun x H1 => ∃ a xs, x = .ref a ∧ ((SqL K H1 a xs ∧ ∀ p, H1 p = none → Q (.ref p) (upd H1 p (.lst xs.reverse))) ∨ (SqT K H1 a xs ∧ ∀ p, H1 p = none → Q (.ref p) (upd H1 p (.tup xs.reverse))))
theorem pe_revA {X : Cx} {e : Expr} {te : TE} {k : Nat} {p1 p2 p3 pos : Pos} (he : PE X e te) : PE X (.Subscript e (.Slice none none (some (.UnaryOp .USub (.Constant (.int 1) k p1) p2)) p3) pos) (tRevA X.K te) := by
  refine ⟨fun pins s σ H Q I h => ?_⟩
  refine Subscript_ (thn (he.run pins s σ H _ I h) fun v s1 ⟨x, H1, I1, r1, q1⟩ => ?_)
  obtain ⟨a, xs, ex, q⟩ := q1
  subst ex
  cases r1
  have hst : PO X (some (.UnaryOp .USub (.Constant (.int 1) k p1) p2)) (tPart (tUn (rU fun i => .int (-i)) (tC (.int 1)))) := po_some (pe_un un_neg pe_int)
  refine wpAny_Slice (thn (po_none.run pins s1 σ H1 (fun o H2 => o = none ∧ H2 = H1) I1 ⟨rfl, rfl⟩) fun vl s2 ⟨l, H2, I2, pl, el, e2⟩ => ?_)
  subst el e2
  refine thn (po_none.run pins s2 σ H2 (fun o H3 => o = none ∧ H3 = H2) I2 ⟨rfl, rfl⟩) fun vu s3 ⟨u, H3, I3, pu, eu, e3⟩ => ?_
  subst eu e3
  refine thn (hst.run pins s3 σ H3 (fun o H4 => o = some (-1) ∧ H4 = H3) I3 ⟨1, rfl, -1, rfl, rfl, rfl⟩) fun vs s4 ⟨o, H4, I4, ps, eo, e4⟩ => ?_
  subst eo e4
  have I5 : L2.Inv X pins σ H4 { s4 with heap := s4.heap.push { cls := .type "slice", data := .fields #[vl, vu, vs] } } := I4.kept (t' := s4.toks) fun b ob q => Heap.get?_push_of_some _ q
  rcases q with ⟨hx, q⟩ | ⟨hx, q⟩
  · obtain ⟨its, r, ht, hz⟩ := I5.list hx
    have hlen := r.length
    show wpAny (model X.prog X.w) X.A (subscriptTail e (.Slice none none (some (.UnaryOp .USub (.Constant (.int 1) k p1) p2)) p3) (.ref a) (.ref s4.heap.objs.size)) (EP X pins σ Q) X.xe { s4 with heap := s4.heap.push { cls := .type "slice", data := .fields #[vl, vu, vs] } }
    refine tail_any (ops := [.ref a, .ref s4.heap.objs.size]) ht.isList.typeIs (PySem.slot_list_getitem.lookup) ?_ (by with_unfolding_all rfl)
    refine wpAny_getItem_list_slice ht.isList (Heap.IsSliceOf.new _ vl vu vs) pl pu ps (by decide) ?_ (by rw [List.size_toArray]; omega)
    rw [PySem.W.krv_pick]
    refine ⟨.ref _, _, I5.laid (t' := s4.toks) (o := .lst xs.reverse) (fun b ob q => Heap.get?_push_of_some _ q) (Nat.le_refl _) ?_, rfl, q _ (I5.hok.fresh (Nat.le_refl _))⟩
    exact ⟨by rw [List.length_reverse]; exact hz, _, 0, r.reverse, Heap.get?_push_size _ rfl⟩
  · obtain ⟨its, r, ht, hz⟩ := I5.tuple hx
    have hlen := r.length
    show wpAny (model X.prog X.w) X.A (subscriptTail e (.Slice none none (some (.UnaryOp .USub (.Constant (.int 1) k p1) p2)) p3) (.ref a) (.ref s4.heap.objs.size)) (EP X pins σ Q) X.xe { s4 with heap := s4.heap.push { cls := .type "slice", data := .fields #[vl, vu, vs] } }
    refine tail_any (ops := [.ref a, .ref s4.heap.objs.size]) ht.typeIs (PyProof.Rows.slot_tuple_getitem.lookup) ?_ (by with_unfolding_all rfl)
    refine getItem_tuple_rev ht (Heap.IsSliceOf.new _ vl vu vs) pl pu ps ?_ (by rw [List.size_toArray]; omega)
    refine ⟨.ref _, _, I5.laid (t' := s4.toks) (o := .tup xs.reverse) (fun b ob q => Heap.get?_push_of_some _ q) (Nat.le_refl _) ?_, rfl, q _ (I5.hok.fresh (Nat.le_refl _))⟩
    exact ⟨by rw [List.length_reverse]; exact hz, _, r.reverse, IsTup.new _ _⟩
/-- x[::-1]: of a tuple; of a list (the new one changes no more) -/
def tRev3 (te : TE3) : TE3 := fun env S Q => te env S fun x S1 => match x with
  | .p (.tuple ds) => Q (.p (.tuple ds.reverse)) S1
  | d => match lst3 S1 d with
    | some ds => Q (.p (.list ds.reverse)) S1
    | none => False
theorem qe_rev {X : Cx} {e : Expr} {te : TE3} {k : Nat} {p1 p2 p3 pos : Pos} (he : QE X e te) : QE X (.Subscript e (.Slice none none (some (.UnaryOp .USub (.Constant (.int 1) k p1) p2)) p3) pos) (tRev3 te) :=
  (pe_revA he).imp fun σ H R ⟨w, env, S, Q, r0, en, t, q⟩ => by
    refine ⟨w, env, S, _, r0, en, t, fun w1 v d H1 S1 e1 r1 p1 t1 => ?_⟩
    split at t1
    · obtain ⟨a, xs, rfl, hq, ha⟩ := dp_tup_ref p1
      exact ⟨a, xs, rfl, .inr ⟨Same.sqT r1.sub hq, (q.mono e1).tup r1 (DpAll.reverse ha) (by rw [List.length_reverse]; exact len_tup r1 p1) t1⟩⟩
    · split at t1
      · rename_i ds h1
        obtain ⟨a, xs, rfl, hq, ha, hlen⟩ := lst3_low r1 p1 h1
        exact ⟨a, xs, rfl, .inl ⟨hq, (q.mono e1).lst r1 (DpAll.reverse ha) (by rw [List.length_reverse]; exact hlen) t1⟩⟩
      · exact t1.elim
end L3

namespace L3
open PySem PySem.Spec PyProof.Rows L2
/-! ### own dicts with int and str keys -/
def key3 : PyData → Option Key
  | .int i => some (.inl i)
  | .str x => some (.inr x)
  | _ => none
def valD (kvs : List (Key × D)) (k : Key) : Option D := (kvs.find? fun kv => decide (kv.1 = k)).map (·.2)
def putD (kvs : List (Key × D)) (k : Key) (v : D) : List (Key × D) :=
  if (kvs.any fun kv => decide (kv.1 = k)) = true then kvs.map (fun kv => if kv.1 = k then (kv.1, v) else kv) else kvs ++ [(k, v)]
def dik3 (S : S3) : D → Option (Nat × List (Key × D))
  | .loc n => match S[n]? with
    | some (some (.dik kvs)) => some (n, kvs)
    | _ => none
  | _ => none
abbrev KvR (K : PySem.W.Frag) (w : W3) (n : Nat) : Key × V → Key × D → Prop := fun p q => p.1 = q.1 ∧ RepD K w p.2 q.2 ∧ under n q.2
theorem key3_low {K : PySem.W.Frag} {w : W3} {v : V} {d : PyData} {k : Key} (p : RepD K w v (.p d)) (h : key3 d = some k) : v = kV k := by
  cases d <;> simp only [key3] at h <;> first | cases h | skip
  · exact dp_int p
  · exact dp_str p
theorem pv_val {K : PySem.W.Frag} {w : W3} {n : Nat} {k : Key} : ∀ {kxs : List (Key × V)} {kvs : List (Key × D)}, Paired (KvR K w n) kxs kvs → (valD kvs k = none ∧ valV kxs k = none) ∨ ∃ d v, valD kvs k = some d ∧ valV kxs k = some v ∧ RepD K w v d
  | _, _, .nil => .inl ⟨rfl, rfl⟩
  | _, _, .cons (a := p) (b := q) (l₁ := xs) (l₂ := ys) r rs => by
    by_cases e : q.1 = k
    · refine .inr ⟨q.2, p.2, ?_, ?_, r.2.1⟩
      · simp [valD, List.find?_cons, e]
      · simp [valV, List.find?_cons, r.1.trans e]
    · have e' : ¬ p.1 = k := fun z => e (r.1 ▸ z)
      have a : valD (q :: ys) k = valD ys k := by simp only [valD, List.find?_cons, e, decide_false]
      have b : valV (p :: xs) k = valV xs k := by simp only [valV, List.find?_cons, e', decide_false]
      rw [a, b]
      exact pv_val rs
theorem pv_any {K : PySem.W.Frag} {w : W3} {n : Nat} {k : Key} : ∀ {kxs : List (Key × V)} {kvs : List (Key × D)}, Paired (KvR K w n) kxs kvs → (kxs.any fun kv => decide (kv.1 = k)) = kvs.any fun kv => decide (kv.1 = k)
  | _, _, .nil => rfl
  | _, _, .cons r rs => by rw [List.any_cons, List.any_cons, r.1, pv_any rs]
theorem pv_map {K : PySem.W.Frag} {w : W3} {n : Nat} {k : Key} {v : V} {d : D} (hd : RepD K w v d ∧ under n d) : ∀ {kxs : List (Key × V)} {kvs : List (Key × D)}, Paired (KvR K w n) kxs kvs → Paired (KvR K w n) (kxs.map fun kv => if kv.1 = k then (kv.1, v) else kv) (kvs.map fun kv => if kv.1 = k then (kv.1, d) else kv)
  | _, _, .nil => .nil
  | _, _, .cons (a := p) (b := q) r rs => by
    rw [List.map_cons, List.map_cons]
    refine .cons ?_ (pv_map hd rs)
    by_cases e : q.1 = k
    · rw [if_pos e, if_pos (r.1.trans e)]
      exact ⟨r.1, hd⟩
    · rw [if_neg e, if_neg fun z => e (r.1 ▸ z)]
      exact r
theorem pv_app {K : PySem.W.Frag} {w : W3} {n : Nat} : ∀ {kxs lxs : List (Key × V)} {kvs lvs : List (Key × D)}, Paired (KvR K w n) kxs kvs → Paired (KvR K w n) lxs lvs → Paired (KvR K w n) (kxs ++ lxs) (kvs ++ lvs)
  | _, _, _, _, .nil, s => s
  | _, _, _, _, .cons r rs, s => .cons r (pv_app rs s)
theorem pv_put {K : PySem.W.Frag} {w : W3} {n : Nat} {k : Key} {v : V} {d : D} {kxs : List (Key × V)} {kvs : List (Key × D)} (p : Paired (KvR K w n) kxs kvs) (hd : RepD K w v d ∧ under n d) : Paired (KvR K w n) (putK kxs k v) (putD kvs k d) := by
  unfold putK putD
  rw [pv_any p]
  split
  · exact pv_map hd p
  · exact pv_app p (.cons ⟨rfl, hd⟩ .nil)
theorem pv_len {K : PySem.W.Frag} {w : W3} {n : Nat} : ∀ {kxs : List (Key × V)} {kvs : List (Key × D)}, Paired (KvR K w n) kxs kvs → kxs.length = kvs.length
  | _, _, .nil => rfl
  | _, _, .cons _ rs => congrArg (· + 1) (pv_len rs)
theorem dik3_low {K : PySem.W.Frag} {w : W3} {H : Hp} {S : S3} {v : V} {d : D} {n : Nat} {kvs : List (Key × D)} (r : Rel3 K w H S) (p : RepD K w v d) (h : dik3 S d = some (n, kvs)) :
    ∃ a kxs, v = .ref a ∧ d = .loc n ∧ w.al[n]? = some a ∧ S[n]? = some (some (.dik kvs)) ∧ H a = some (.dK kxs) ∧ Paired (KvR K w n) kxs kvs := by
  unfold dik3 at h
  split at h
  · split at h
    · rename_i es hs
      cases h
      obtain ⟨a, ha, rfl⟩ := p
      obtain ⟨_, u, hu, kxs, rfl, hp⟩ := r.live n a _ ha hs
      exact ⟨a, kxs, rfl, rfl, ha, hs, hu, hp⟩
    · cases h
  · cases h
/-- {} -/
def tDNew3 : TE3 := fun _ S Q => Q (.loc S.length) (S ++ [some (.dik [])])
/-- d[k] -/
def tDGet3 (to ti : TE3) : TE3 := fun env S Q => to env S fun o S1 => ti env S1 fun i S2 => match dik3 S2 o, i with
  | some (_, kvs), .p d => (match key3 d with
    | some k => (match valD kvs k with
      | some v => Q v S2
      | none => False)
    | none => False)
  | _, _ => False
/-- d[k] = e -/
def tDPut3 (te to ti : TE3) : TS3 := fun D env S => te env S fun v S1 => to env S1 fun o S2 => ti env S2 fun i S3 => match dik3 S3 o, i with
  | some (n, kvs), .p d => (match key3 d with
    | some k => (kvs.length < 16777216 ∧ under n v) ∧ D.nx env (S3.set n (some (.dik (putD kvs k v))))
    | none => False)
  | _, _ => False
section
variable {X : Cx} {o i e : Expr} {to ti te : TE3} {pos pos' : Pos}
theorem qe_dnew : QE X (.Dict [] [] pos) tDNew3 := L2.PE.imp pe_dnewK fun σ H R ⟨w, env, S, Q, r0, en, t, q⟩ => fun p hn => by
  obtain ⟨r2, e2⟩ := r0.push (u := .dK []) (o := .dik []) hn ⟨[], rfl, .nil⟩
  refine q _ (.ref p) (.loc S.length) _ _ e2 r2 ⟨p, ?_, rfl⟩ t
  show (w.al ++ [p])[S.length]? = some p
  rw [← r0.len, List.getElem?_append_right (Nat.le_refl _)]
  simp
theorem qe_dget (hu : X.A.units + 64 < cLine) (ho : QE X o to) (hi : QE X i ti) (hs : NoSl i) : QE X (.Subscript o i pos) (tDGet3 to ti) := L2.PE.imp (pe_dget (by omega) ho hi hs) fun σ H R ⟨w, env, S, Q, r0, en, t, q⟩ => by
  refine ⟨w, env, S, _, r0, en, t, fun w1 v d H1 S1 e1 r1 p1 t1 => ?_⟩
  refine ⟨w1, env, S1, _, r1, en.mono e1, t1, fun w2 u c H2 S2 e2 r2 p2 t2 => ?_⟩
  split at t2
  · rename_i n kvs dd ho'
    split at t2
    · rename_i k hk
      split at t2
      · rename_i x hx
        obtain ⟨a, kxs, rfl, rfl, ha, hs', hH, hp⟩ := dik3_low r2 (p1.mono e2) ho'
        have hy := key3_low p2 hk
        subst hy
        rcases pv_val (k := k) hp with ⟨h1, _⟩ | ⟨d', v', h1, h2, h3⟩
        · rw [hx] at h1; cases h1
        · rw [hx] at h1
          cases h1
          refine ⟨a, v', rfl, ?_, (q.mono (e1.trans e2)).old (d := x) r2 h3 t2⟩
          rw [← h2]
          exact DGet.k hH
      · exact t2.elim
    · exact t2.elim
  · exact t2.elim
theorem qs_dput (hu : X.A.units + 64 < cLine) (he : QE X e te) (ho : QE X o to) (hi : QE X i ti) (hs : swapsWith e (some (.Subscript o i pos')) pos.line X.env = pure false := by rfl) : QS X (.Assign [.Subscript o i pos'] e pos) (tDPut3 te to ti) :=
  L2.PS.imp (ps_dput (by omega) ho hi he hs) fun D σ H ⟨w, env, S, D3, r0, en, t, q⟩ => by
    have hz : sizeLine = 16777216 := sizeLine_eq
    refine ⟨w, env, S, _, r0, en, t, fun w1 v d H1 S1 e1 r1 p1 t1 => ?_⟩
    refine ⟨w1, env, S1, _, r1, en.mono e1, t1, fun w2 u c H2 S2 e2 r2 p2 t2 => ?_⟩
    refine ⟨w2, env, S2, _, r2, (en.mono e1).mono e2, t2, fun w3 z b H3 S3 e3 r3 p3 t3 => ?_⟩
    split at t3
    · rename_i n kvs dd ho'
      split at t3
      · rename_i k hk
        obtain ⟨a, kxs, rfl, rfl, ha, hs', hH, hp⟩ := dik3_low r3 (p2.mono e3) ho'
        have hy := key3_low p3 hk
        subst hy
        have hl := pv_len hp
        have p1' : RepD X.K w3 v d := (p1.mono e2).mono e3
        obtain ⟨⟨t31, t32⟩, t3⟩ := t3
        refine ⟨a, _, rfl, DPut.k hH (by omega), ?_⟩
        exact q.nx w3 σ _ env _ ((e1.trans e2).trans e3) (r3.put (o' := .dik (putD kvs k d)) ha hs' ⟨_, rfl, pv_put hp ⟨p1', t32⟩⟩) (((en.mono e1).mono e2).mono e3) t3
      · exact t3.elim
    · exact t3.elim
end
/-- {k: v, ..} -/
def keyD : D → Option Key
  | .p d => key3 d
  | _ => none
def keysD : List (D × D) → Option (List (Key × D))
  | [] => some []
  | (k, v) :: r => match keyD k, keysD r with
    | some k, some kvs => some ((k, v) :: kvs)
    | _, _ => none
def mergeD (kvs more : List (Key × D)) : List (Key × D) := more.foldl (fun acc kv => putD acc kv.1 kv.2) kvs
def tPairs3 : List (TE3 × TE3) → E3 → S3 → (List (D × D) → S3 → Prop) → Prop
  | [], _, S, Q => Q [] S
  | (tk, tv) :: r, env, S, Q => tk env S fun x S1 => tv env S1 fun y S2 => tPairs3 r env S2 fun ps S3 => Q ((x, y) :: ps) S3
def tDLit3 (trs : List (TE3 × TE3)) : TE3 := fun env S Q => tPairs3 trs env S fun ps S1 => match keysD ps with
  | some kvs => kvs.length ≤ 15 ∧ Q (.loc S1.length) (S1 ++ [some (.dik (mergeD [] kvs))])
  | none => False
def lowTrs (K : PySem.W.Frag) (trs : List (TE3 × TE3)) : List (TE × TE) := trs.map fun p => (low K p.1, low K p.2)
def PrR (K : PySem.W.Frag) (w : W3) : List (V × V) → List (D × D) → Prop := Paired fun p q => RepD K w p.1 q.1 ∧ RepD K w p.2 q.2
theorem PrR.mono {K : PySem.W.Frag} {w w' : W3} (e : Ex3 w w') {ps : List (V × V)} {qs : List (D × D)} (h : PrR K w ps qs) : PrR K w' ps qs := Paired.mapP h fun p q z => ⟨z.1.mono e, z.2.mono e⟩
theorem pairs_low {K : PySem.W.Frag} {σ : L2.St} : ∀ (trs : List (TE3 × TE3)) (w : W3) (env : E3) (S : S3) (H : Hp) (Q : List (D × D) → S3 → Prop) (R : List (V × V) → Hp → Prop), Rel3 K w H S → EnvR K w σ env → tPairs3 trs env S Q →
    (∀ w' ps qs H' S', Ex3 w w' → Rel3 K w' H' S' → PrR K w' ps qs → Q qs S' → R ps H') → tPairs (lowTrs K trs) σ H R
  | [], w, env, S, H, Q, R, r, en, t, h => h w [] [] H S (Ex3.refl _) r .nil t
  | (tk, tv) :: trs, w, env, S, H, Q, R, r, en, t, h => by
    refine ⟨w, env, S, _, r, en, t, fun w1 v d H1 S1 e1 r1 p1 t1 => ?_⟩
    refine ⟨w1, env, S1, _, r1, en.mono e1, t1, fun w2 u c H2 S2 e2 r2 p2 t2 => ?_⟩
    refine pairs_low trs w2 env S2 H2 _ _ r2 ((en.mono e1).mono e2) t2 fun w3 ps qs H3 S3 e3 r3 p3 t3 => ?_
    exact h w3 _ _ H3 S3 ((e1.trans e2).trans e3) r3 (.cons ⟨(p1.mono e2).mono e3, p2.mono e3⟩ p3) t3
theorem RepD.under {K : PySem.W.Frag} {w : W3} {v : V} {d : D} {H : Hp} {S : S3} (r : Rel3 K w H S) (h : RepD K w v d) : under S.length d := by
  cases d with
  | p d => trivial
  | exc c => trivial
  | loc m =>
    obtain ⟨a, h1, _⟩ := h
    show m < _
    rw [← r.len]
    exact (List.getElem?_eq_some_iff.mp h1).1
theorem keys_low {K : PySem.W.Frag} {w : W3} {H : Hp} {S : S3} (r : Rel3 K w H S) : ∀ {ps : List (V × V)} {qs : List (D × D)} {kvs : List (Key × D)}, PrR K w ps qs → keysD qs = some kvs → ∃ kxs : List (Key × V), ps = kxs.map (fun kv => (kV kv.1, kv.2)) ∧ Paired (KvR K w S.length) kxs kvs
  | _, _, _, .nil, h => by cases h; exact ⟨[], rfl, .nil⟩
  | _, _, _, .cons (a := p) (b := q) z zs, h => by
    obtain ⟨k, v⟩ := q
    unfold keysD at h
    split at h
    · rename_i k' kvs' h1 h2
      cases h
      obtain ⟨kxs, rfl, hp⟩ := keys_low r zs h2
      have hk : p.1 = kV k' := by
        unfold keyD at h1
        split at h1
        · exact key3_low z.1 h1
        · cases h1
      refine ⟨(k', p.2) :: kxs, ?_, .cons ⟨rfl, z.2, z.2.under r⟩ hp⟩
      rw [List.map_cons, ← hk]
    · cases h
theorem pv_merge {K : PySem.W.Frag} {w : W3} {n : Nat} : ∀ {more : List (Key × D)} {mxs kxs : List (Key × V)} {kvs : List (Key × D)}, Paired (KvR K w n) mxs more → Paired (KvR K w n) kxs kvs → Paired (KvR K w n) (mergeK kxs mxs) (mergeD kvs more)
  | _, _, _, _, .nil, s => s
  | _, _, _, _, .cons (a := p) (b := q) r rs, s => by
    have := pv_put (k := q.1) s r.2
    show Paired (KvR K w n) (mergeK (putK _ p.1 p.2) _) (mergeD (putD _ q.1 q.2) _)
    rw [show p.1 = q.1 from r.1]
    exact pv_merge rs this
abbrev QPs (X : Cx) (pos : Pos) (keys : List (Option Expr)) (values : List Expr) (trs : List (TE3 × TE3)) : Prop := PPs X pos keys values (lowTrs X.K trs)
section
variable {X : Cx} {pos : Pos}
theorem qps_nil : QPs X pos [] [] [] := pps_nil
theorem qps_cons {k v : Expr} {ks : List (Option Expr)} {vs : List Expr} {tk tv : TE3} {trs : List (TE3 × TE3)} (hk : QE X k tk) (hv : QE X v tv) (hr : QPs X pos ks vs trs) : QPs X pos (some k :: ks) (v :: vs) ((tk, tv) :: trs) := pps_cons hk hv hr
theorem qe_dlit {keys : List (Option Expr)} {values : List Expr} {trs : List (TE3 × TE3)} (h : QPs X pos keys values trs) (hall : keys.all (·.isSome) = true := by rfl) (hl : keys.length = values.length := by rfl) (h0 : keys ≠ [] := by decide)
    (h15 : keys.length ≤ 15 := by decide) : QE X (.Dict keys values pos) (tDLit3 trs) := L2.PE.imp (pe_disp h hall hl h0 h15) fun σ H R ⟨w, env, S, Q, r0, en, t, q⟩ => fun p hn => by
  have r1 := r0.pinNew (u := .dK []) hn
  have e01 : Ex0 w ⟨w.al, w.h, (p, .dK []) :: w.pn⟩ := ⟨⟨[], by simp⟩, Same.refl _⟩
  refine pairs_low trs _ env S _ _ _ r1 (en.mono0 e01) t fun w2 ps qs H2 S2 e2 r2 p2 t2 => ?_
  obtain ⟨al2, h2, pn2⟩ := w2
  have hpn : pn2 = (p, .dK []) :: w.pn := e2.pn
  subst hpn
  refine ⟨(r2.pin p _ List.mem_cons_self).1, ?_⟩
  split at t2
  · rename_i kvs hk
    obtain ⟨kxs, rfl, hp⟩ := keys_low r2 p2 hk
    have hln := pv_len hp
    refine ⟨kxs, rfl, by omega, ?_⟩
    obtain ⟨r3, hdn, hup⟩ := r2.unpin
    have hp3 : Paired (KvR X.K ⟨al2, h2, w.pn⟩ S2.length) (mergeK [] kxs) (mergeD [] kvs) := by
      have := pv_merge hp (kxs := []) (kvs := []) .nil
      exact Paired.mapP this fun a b z => ⟨z.1, RepD.mono0 (w := ⟨al2, h2, (p, .dK []) :: w.pn⟩) ⟨⟨[], by simp⟩, Same.refl _⟩ z.2.1, z.2.2⟩
    obtain ⟨r4, e4⟩ := r3.push (a := p) (u := .dK (mergeK [] kxs)) (o := .dik (mergeD [] kvs)) hdn ⟨_, rfl, hp3⟩
    have hH : upd H2 p (.dK (mergeK [] kxs)) = upd (del H2 p) p (.dK (mergeK [] kxs)) := by
      funext b
      by_cases hb : b = p
      · subst hb
        rw [upd_same, upd_same]
      · rw [upd_ne hb, upd_ne hb]
        unfold del
        rw [if_neg hb]
    rw [hH]
    refine q _ (.ref p) (.loc S2.length) _ _ (Ex3.trans (w' := ⟨al2, h2, w.pn⟩) ⟨⟨e2.al, e2.h⟩, rfl⟩ e4) r4 ⟨p, ?_, rfl⟩ t2.2
    show (al2 ++ [p])[S2.length]? = some p
    have := r3.len
    rw [← show al2.length = S2.length from this, List.getElem?_append_right (Nat.le_refl _)]
    simp
  · exact t2.elim
end
section
variable {X : Cx} {o i e : Expr} {to ti te : TE3} {pos pos' : Pos}
/-- k in d, k not in d -/
def tDIn3 (neg : Bool) (ti to : TE3) : TE3 := fun env S Q => ti env S fun i S1 => to env S1 fun o S2 => match dik3 S2 o, i with
  | some (_, kvs), .p d => (match key3 d with
    | some k => Q (.p (.bool (if neg then !(valD kvs k).isSome else (valD kvs k).isSome))) S2
    | none => False)
  | _, _ => False
theorem din_low {K : PySem.W.Frag} {neg : Bool} {σ : L2.St} {H : Hp} {R : VK} (h : low K (tDIn3 neg ti to) σ H R) : low K ti σ H fun y H1 => low K to σ H1 fun x H2 => ∃ a o, x = .ref a ∧ DGet H2 a y o ∧ R (.bl (if neg then !o.isSome else o.isSome)) H2 := by
  obtain ⟨w, env, S, Q, r0, en, t, q⟩ := h
  refine ⟨w, env, S, _, r0, en, t, fun w1 v d H1 S1 e1 r1 p1 t1 => ?_⟩
  refine ⟨w1, env, S1, _, r1, en.mono e1, t1, fun w2 u c H2 S2 e2 r2 p2 t2 => ?_⟩
  split at t2
  · rename_i n kvs dd ho'
    split at t2
    · rename_i k hk
      obtain ⟨a, kxs, rfl, rfl, ha, hs', hH, hp⟩ := dik3_low r2 p2 ho'
      have hy := key3_low (p1.mono e2) hk
      subst hy
      refine ⟨a, _, rfl, DGet.k hH, ?_⟩
      have e : (valV kxs k).isSome = (valD kvs k).isSome := by
        rcases pv_val (k := k) hp with ⟨h1, h2⟩ | ⟨d', v', h1, h2, _⟩ <;> rw [h1, h2] <;> rfl
      rw [e]
      exact (q.mono (e1.trans e2)).bl r2 t2
    · exact t2.elim
  · exact t2.elim
theorem qe_din (hu : X.A.units + 64 < cLine) (hi : QE X i ti) (ho : QE X o to) (h1 : behindInMarks .In o = false := by rfl) : QE X (.Compare i [.In] [o] pos) (tDIn3 false ti to) :=
  L2.PE.imp (pe_cmp (pc_din (by omega) hi ho) h1) fun σ H R h => din_low h
theorem qe_dnotin (hu : X.A.units + 64 < cLine) (hi : QE X i ti) (ho : QE X o to) (h1 : behindInMarks .NotIn o = false := by rfl) : QE X (.Compare i [.NotIn] [o] pos) (tDIn3 true ti to) :=
  L2.PE.imp (pe_cmp (pc_dnotin (by omega) hi ho) h1) fun σ H R h => din_low h
theorem qt_din (hu : X.A.units + 64 < cLine) (hi : QE X i ti) (ho : QE X o to) (h1 : behindInMarks .In o = false := by rfl) : QT X (.Compare i [.In] [o] pos) (tTest3 (tDIn3 false ti to)) :=
  L2.PT.imp (pt_cmp (pc_din (by omega) hi ho) h1) fun σ H R h => test_low (t := tDIn3 false ti to) (t2 := fun σ H R' => low X.K (tDIn3 false ti to) σ H R') (fun R' q => q) h |> fun z => din_low z
theorem qt_dnotin (hu : X.A.units + 64 < cLine) (hi : QE X i ti) (ho : QE X o to) (h1 : behindInMarks .NotIn o = false := by rfl) : QT X (.Compare i [.NotIn] [o] pos) (tTest3 (tDIn3 true ti to)) :=
  L2.PT.imp (pt_cmp (pc_dnotin (by omega) hi ho) h1) fun σ H R h => test_low (t := tDIn3 true ti to) (t2 := fun σ H R' => low X.K (tDIn3 true ti to) σ H R') (fun R' q => q) h |> fun z => din_low z
/-- len of a text, a list, a tuple, a dict of the store -/
def rLenA3 : C3 := fun ds S Q => match ds with
  | [.p (.str z)] => z.length ≤ 16777216 ∧ Q (.p (.int z.length)) S
  | [d] => match dik3 S d with
    | some (_, kvs) => Q (.p (.int kvs.length)) S
    | none => match seq3 S d with
      | some es => Q (.p (.int es.length)) S
      | none => False
  | _ => False
theorem cq_lenA : CQ X (.builtin "len") rLenA3 := CallR.imp (CallR.or (r := lowC X.K rLen3) cq_len call_lenD) fun xs H R ⟨w, S, ds, Q, r0, p1, t, q⟩ => by
  unfold rLenA3 at t
  split at t
  · exact .inl ⟨w, S, _, Q, r0, p1, t, q⟩
  · rename_i d hd
    split at t
    · rename_i n kvs ho'
      obtain ⟨v, rfl, p⟩ := rds1 p1
      obtain ⟨a, kxs, rfl, rfl, ha, hs', hH, hp⟩ := dik3_low r0 p ho'
      refine .inr ⟨a, kxs, rfl, hH, ?_⟩
      rw [pv_len hp]
      exact q.int r0 t
    · refine .inl ⟨w, S, _, Q, r0, p1, ?_, q⟩
      unfold rLen3
      split
      · rename_i z hz
        cases hz
        exact absurd rfl (hd z)
      · rename_i d' _ hz
        cases hz
        exact t
      · rename_i h1 h2
        exact absurd rfl (h2 _)
  · exact t.elim
end
end L3

namespace L3
open PySem PySem.Spec PyProof.Rows L2
/-! ### [..] * n -/
def tRepN3 (ta : TN3) (tb : TE3) : TN3 := fun env S Q => ta env S fun ds S1 => tb env S1 fun k S2 => match k with
  | .p (.int k) => (-4611686018427387904 ≤ k ∧ k ≤ 16777216 ∧ ds.length * k.toNat ≤ 16777216) ∧ Q (rep3 ds k) S2
  | _ => False
section
variable {X : Cx} {a b : Expr} {ta : TN3} {tb : TE3} {pos : Pos}
theorem qn_rep (ha : QN X a ta) (hb : QE X b tb) : QN X (.BinOp a .Mult b pos) (tRepN3 ta tb) := L2.PE.imp (pe_op op_rep ha hb) fun σ H R ⟨w, env, S, Q, r0, en, t, q⟩ => by
  have hz : sizeLine = 16777216 := sizeLine_eq
  refine ⟨w, env, S, _, r0, en, t, fun w1 p xs ds H1 S1 e1 r1 hn ha' hl t1 => ?_⟩
  have hxl := DpAll.length ha'
  obtain ⟨r2, e2⟩ := r1.frz (u := .lst xs) hn (by show xs.length ≤ _; rw [hxl]; exact hl)
  refine ⟨_, env, S1, _, r2, (en.mono e1).mono e2, t1, fun w3 v d H3 S3 e3 r3 p3 t3 => ?_⟩
  split at t3
  · rename_i k
    obtain ⟨⟨h1, h2, h3⟩, t3⟩ := t3
    have hp : H3 p = some (.lst xs) := r3.sub _ _ (e3.h _ _ (upd_same (H := w1.h) (a := p)))
    refine ⟨p, k, xs, rfl, dp_int p3, hp, by omega, by omega, by rw [hxl]; omega, fun p2 hn2 => ?_⟩
    exact q w3 p2 _ (rep3 ds k) H3 S3 ((e1.trans e2).trans e3) r3 hn2 (DpAll.flatten (dpAll_mono (e2.h.trans e3.h) _ _ ha') k.toNat) (by rw [rep3_len]; omega) t3
  · exact t3.elim
end
/-! ### == of lists of the store -/
def data3 (S : S3) : D → Option PyData
  | .p d => some d
  | .loc n => match S[n]? with
    | some (some (.lst ds)) => some (.list ds)
    | _ => none
  | .exc _ _ => none
theorem data3_low {K : PySem.W.Frag} {w : W3} {H : Hp} {S : S3} {v : V} {d : D} {x : PyData} (r : Rel3 K w H S) (p : RepD K w v d) (h : data3 S d = some x) : Dp K H v x := by
  unfold data3 at h
  split at h
  · cases h
    exact dp_mono r.sub _ _ p
  · split at h
    · rename_i es hs
      cases h
      obtain ⟨a, ha, rfl⟩ := p
      obtain ⟨_, u, hu, xs, rfl, hd, hz⟩ := r.live _ a _ ha hs
      exact .lst (.inl (.inl hu)) (dpAll_mono r.sub _ _ hd)
    · cases h
  · cases h
def rEqL3 : R3 := fun x y S Q => match data3 S x, data3 S y with
  | some d, some e => (SeqAt.shaped d = true ∧ SeqAt.shaped e = true) ∧ Q (.p (.bool (PyData.eqv d e))) S
  | _, _ => False
def rNeL3 : R3 := fun x y S Q => match data3 S x, data3 S y with
  | some d, some e => (SeqAt.shaped d = true ∧ SeqAt.shaped e = true) ∧ Q (.p (.bool (!PyData.eqv d e))) S
  | _, _ => False
theorem oq_eqL {X : Cx} (hu : X.A.units + 64 < cLine) : OQ X (compareOp .Eq) rEqL3 := opq (op_eqD hu) fun w S d e x y H Q R r0 p1 p2 t q => by
  unfold rEqL3 at t
  split at t
  · rename_i d' e' h1 h2
    exact ⟨_, _, (data3_low r0 p1 h1).sh t.1.1, (data3_low r0 p2 h2).sh t.1.2, t.1.1, t.1.2, q.bl r0 t.2⟩
  · exact t.elim
theorem oq_neL {X : Cx} (hu : X.A.units + 64 < cLine) : OQ X (compareOp .NotEq) rNeL3 := opq (op_neD hu) fun w S d e x y H Q R r0 p1 p2 t q => by
  unfold rNeL3 at t
  split at t
  · rename_i d' e' h1 h2
    exact ⟨_, _, (data3_low r0 p1 h1).sh t.1.1, (data3_low r0 p2 h2).sh t.1.2, t.1.1, t.1.2, q.bl r0 t.2⟩
  · exact t.elim
/-! ### sorted(set(xs)), xs tuples of ints -/

def tups? : PyData → Option (List Int)
  | .tuple ds => allP int? ds
  | _ => none
theorem tups_inv {d : PyData} {ns : List Int} (h : tups? d = some ns) : d = tupI ns := by
  cases d <;> simp only [tups?] at h <;> first | cases h | skip
  rw [allP_int h]
  rfl
theorem tups_of (ns : List Int) : tups? (tupI ns) = some ns := allP_ints ns
theorem allP_tups : ∀ kss : List (List Int), allP tups? (kss.map tupI) = some kss
  | [] => rfl
  | k :: kss => by
    rw [List.map_cons]
    unfold allP
    rw [tups_of, allP_tups kss]
def tSortSet3 (te : TE3) : TN3 := fun env S Q => te env S fun x S1 => match lst3 S1 x with
  | some ds => match allP tups? ds with
    | some kss => (kss.length < 64 ∧ ∃ (d : Nat) (B : Int), 1 ≤ d ∧ ∀ k ∈ kss, k.length = d ∧ TS.Bd B k) ∧
        ∀ (L : List (List Int)) (B : Int), (∀ k ∈ kss, TS.Bd B k) → (∀ k, k ∈ L ↔ k ∈ kss) → L.Nodup → L.length ≤ kss.length → L.Pairwise (fun q r => TS.code B q ≤ TS.code B r) → Q (L.map tupI) S1
    | none => False
  | none => False
theorem tups_low {K : PySem.W.Frag} {h : Hp} : ∀ {ds : List PyData} {kss : List (List Int)} {xs : List V}, DpAll K h xs ds → allP tups? ds = some kss → ∃ ks : List (Addr × List Int), xs = ks.map (fun p => V.ref p.1) ∧ kss = ks.map (·.2) ∧ ∀ p ∈ ks, SqT K h p.1 (p.2.map V.int)
  | _, _, _, .nil, e => by cases e; exact ⟨[], rfl, rfl, fun p hp => nomatch hp⟩
  | d :: ds, _, _, .cons r rs, e => by
    unfold allP at e
    split at e
    · rename_i k ks' h1 h2
      cases e
      obtain ⟨ks, rfl, rfl, hk⟩ := tups_low rs h2
      rw [tups_inv h1] at r
      obtain ⟨a, ys, rfl, hq, ha⟩ := dp_tup_ref r
      rw [dp_ints ha] at hq
      refine ⟨(a, k) :: ks, rfl, rfl, fun p hp => ?_⟩
      rcases List.mem_cons.mp hp with rfl | hp
      · exact hq
      · exact hk p hp
    · cases e
theorem tups_up {K : PySem.W.Frag} {h : Hp} : ∀ (L : List (Addr × List Int)), (∀ p ∈ L, SqT K h p.1 (p.2.map V.int)) → DpAll K h (L.map fun p => V.ref p.1) ((L.map (·.2)).map tupI)
  | [], _ => .nil
  | p :: L, hk => .cons (.tup (hk p List.mem_cons_self) (dpAll_ints p.2)) (tups_up L fun q hq => hk q (List.mem_cons_of_mem _ hq))
theorem sqT_up {K : PySem.W.Frag} {H : Hp} {a b : Addr} {u : HO} {xs : List V} (hn : H a = none) (h : SqT K H b xs) : SqT K (upd H a u) b xs := Same.sqT (fun c o e => by rw [upd_ne (ne_of_none e hn)]; exact e) h
theorem nodup_len3 {α : Type} [DecidableEq α] : ∀ (l D : List α), l.Nodup → (∀ x ∈ l, x ∈ D) → l.length ≤ D.length
  | [], _, _, _ => Nat.zero_le _
  | x :: l, D, h, hs => by
    obtain ⟨h1, h2⟩ := List.nodup_cons.mp h
    have := nodup_len3 l (D.erase x) h2 fun y hy => (List.mem_erase_of_ne (fun z => h1 (by rw [← z]; exact hy))).mpr (hs y (List.mem_cons_of_mem _ hy))
    rw [List.length_erase_of_mem (hs x List.mem_cons_self)] at this
    have := List.length_pos_of_mem (hs x List.mem_cons_self)
    rw [List.length_cons]
    omega
theorem qn_sortSet {X : Cx} {e : Expr} {te : TE3} {p q pos pos' : Pos} (hc : X.calm = true) (hu : X.A.units + 64 < cLine) (hg : Gl X "sorted") (hm : X.mg "sorted" = none) (hg2 : Gl X "set") (hm2 : X.mg "set" = none) (ha : QE X e te)
    (hs : starEach [e] X.env = (false, eval e X.env) :: starEach [] X.env := by rfl) (hpl : (backTo pos' (starEach [] X.env)).any (·.1) = false := by rfl)
    (hs2 : starEach [.Call (.Name "set" q) [e] [] pos'] X.env = (false, eval (.Call (.Name "set" q) [e] [] pos') X.env) :: starEach [] X.env := by rfl) (hpl2 : (backTo pos (starEach [] X.env)).any (·.1) = false := by rfl) :
    QN X (.Call (.Name "sorted" p) [.Call (.Name "set" q) [e] [] pos'] [] pos) (tSortSet3 te) :=
  L2.PE.imp (pe_callB (cr_sortedT hc) hg hm (by decide +kernel) (pa_cons (pe_callTy (cr_setOfT hc hu) hg2 hm2 (by decide +kernel) (pa_cons ha pa_nil hs) (by decide) (by decide) hs hpl) pa_nil hs2) (by decide) (by decide) hs2 hpl2) fun σ H R ⟨w, env, S, Q, r0, en, t, q⟩ => by
    refine ⟨w, env, S, _, r0, en, t, fun w1 v d H1 S1 e1 r1 p1 t1 => ?_⟩
    split at t1
    rotate_left
    · exact t1.elim
    rename_i ds h1
    split at t1
    rotate_left
    · exact t1.elim
    rename_i kss h2
    obtain ⟨⟨c1, dd, B, c2, c3⟩, t1⟩ := t1
    obtain ⟨a, xs, rfl, hq, hd, hz⟩ := lst3_low r1 p1 h1
    obtain ⟨ks, rfl, rfl, hk⟩ := tups_low hd h2
    have hzl : sizeLine = 16777216 := sizeLine_eq
    rw [List.length_map] at c1
    refine ⟨a, ks, rfl, hq, fun p hp => Same.sqT r1.sub (hk p hp), c1, fun b L hn g1 g2 => ?_⟩
    obtain ⟨r2, e2⟩ := r1.frz (u := SetTO X.prog X.w b L) hn trivial
    refine ⟨b, L, dd, B, rfl, upd_same, fun p hp => sqT_up hn (Same.sqT r1.sub (hk p (g1 p hp))), c2, fun p hp => c3 _ (List.mem_map_of_mem (f := (·.2)) (g1 p hp)), fun L' p' pm nd few pw hn2 => ?_⟩
    have hmem : ∀ p ∈ L', p ∈ ks := fun p hp => g1 p (pm.mem_iff.mp hp)
    have iff : ∀ k, k ∈ L'.map (·.2) ↔ k ∈ ks.map (·.2) := fun k => ⟨fun h => by
      obtain ⟨p, hp, rfl⟩ := List.mem_map.mp h
      exact List.mem_map_of_mem (f := (·.2)) (hmem p hp), fun h => by
      obtain ⟨p, hp, rfl⟩ := List.mem_map.mp h
      obtain ⟨p', hp', e'⟩ := List.mem_map.mp (g2 p hp)
      rw [← e']
      exact List.mem_map_of_mem (f := (·.2)) (pm.mem_iff.mpr hp')⟩
    have hle : (L'.map (·.2)).length ≤ (ks.map (·.2)).length := nodup_len3 _ _ nd fun k hk => (iff k).mp hk
    refine q _ p' _ ((L'.map (·.2)).map tupI) _ S1 (e1.trans e2) r2 hn2 (tups_up L' fun p hp => sqT_up (r1.sub.free hn) (hk p (hmem p hp))) ?_ (t1 _ B (fun k hk => (c3 k hk).2) iff nd hle ?_)
    · simp only [List.length_map]
      omega
    · rw [List.pairwise_map]
      exact pw
end L3
namespace L3
open PySem PySem.Spec PyProof.Rows L2
/-! ### x in a tuple or a list of data -/
section
variable {X : Cx}
theorem op_inT (hu : X.A.units + 65 < cLine) : OpR X (compareOp .In) (fun x y H Q => ∃ d ds, Dp X.K H x d ∧ Dp X.K H y (.tuple ds) ∧ SeqAt.shaped d = true ∧ SeqAt.shaped (.tuple ds) = true ∧ Q (.bl (ds.any fun z => PyData.eqv z d)) H) := by
  intro pins s σ H x y v u Q I rx ry h
  obtain ⟨d, ds, hd, he, sd, se, q⟩ := h
  obtain ⟨as, r1⟩ := Dp.reads I d x v hd rx
  obtain ⟨bs, r2⟩ := Dp.reads I (.tuple ds) y u he ry
  exact SeqAt.in_tuple_reads r2 r1 (SeqAt.canLay_of_shaped se) (SeqAt.canLay_of_shaped sd) (room_in_shaped sd hu) ⟨.bl _, H, I, rfl, q⟩
theorem op_notInT (hu : X.A.units + 65 < cLine) : OpR X (compareOp .NotIn) (fun x y H Q => ∃ d ds, Dp X.K H x d ∧ Dp X.K H y (.tuple ds) ∧ SeqAt.shaped d = true ∧ SeqAt.shaped (.tuple ds) = true ∧ Q (.bl (!ds.any fun z => PyData.eqv z d)) H) := by
  intro pins s σ H x y v u Q I rx ry h
  obtain ⟨d, ds, hd, he, sd, se, q⟩ := h
  obtain ⟨as, r1⟩ := Dp.reads I d x v hd rx
  obtain ⟨bs, r2⟩ := Dp.reads I (.tuple ds) y u he ry
  exact SeqAt.notIn_tuple_reads r2 r1 (SeqAt.canLay_of_shaped se) (SeqAt.canLay_of_shaped sd) (room_in_shaped sd hu) ⟨.bl _, H, I, rfl, q⟩
def rInA3 (neg : Bool) : R3 := fun x y S Q => match x, y with
  | .p d, .p (.tuple ds) => (SeqAt.shaped d = true ∧ SeqAt.shaped (.tuple ds) = true) ∧ Q (.p (.bool (if neg then !ds.any fun z => PyData.eqv z d else ds.any fun z => PyData.eqv z d))) S
  | x, y => rIn3 neg x y S Q
theorem oq_inA (hu : X.A.units + 65 < cLine) : OQ X (compareOp .In) (rInA3 false) := OpR.imp (OpR.or (opq (r := fun x y S Q => ∃ d ds, x = .p d ∧ y = .p (.tuple ds) ∧ (SeqAt.shaped d = true ∧ SeqAt.shaped (.tuple ds) = true) ∧ Q (.p (.bool (ds.any fun z => PyData.eqv z d))) S) (op_inT hu) fun w S d e x y H Q R r0 p1 p2 t q => by
    obtain ⟨d', ds, rfl, rfl, t1, t2⟩ := t
    exact ⟨_, ds, dp_mono r0.sub _ _ p1, dp_mono r0.sub _ _ p2, t1.1, t1.2, q.bl r0 t2⟩) (oq_in hu)) fun x y H R ⟨w, S, d, e, Q, r0, p1, p2, t, q⟩ => by
  unfold rInA3 at t
  split at t
  · exact .inl ⟨w, S, _, _, Q, r0, p1, p2, ⟨_, _, rfl, rfl, t⟩, q⟩
  · exact .inr ⟨w, S, _, _, Q, r0, p1, p2, t, q⟩
theorem oq_notinA (hu : X.A.units + 65 < cLine) : OQ X (compareOp .NotIn) (rInA3 true) := OpR.imp (OpR.or (opq (r := fun x y S Q => ∃ d ds, x = .p d ∧ y = .p (.tuple ds) ∧ (SeqAt.shaped d = true ∧ SeqAt.shaped (.tuple ds) = true) ∧ Q (.p (.bool (!ds.any fun z => PyData.eqv z d))) S) (op_notInT hu) fun w S d e x y H Q R r0 p1 p2 t q => by
    obtain ⟨d', ds, rfl, rfl, t1, t2⟩ := t
    exact ⟨_, ds, dp_mono r0.sub _ _ p1, dp_mono r0.sub _ _ p2, t1.1, t1.2, q.bl r0 t2⟩) (oq_notin hu)) fun x y H R ⟨w, S, d, e, Q, r0, p1, p2, t, q⟩ => by
  unfold rInA3 at t
  split at t
  · exact .inl ⟨w, S, _, _, Q, r0, p1, p2, ⟨_, _, rfl, rfl, t⟩, q⟩
  · exact .inr ⟨w, S, _, _, Q, r0, p1, p2, t, q⟩
end
end L3
theorem L2.Room.un65 {k : Nat} {A : PySem.Around} (r : L2.Room k A) : A.units + 65 < PySem.cLine := by
  have := r.un
  omega

/-! ### enumerate(tuple), enumerate(reversed(tuple)) -/
namespace L3
open PySem PySem.Spec PyProof.Rows L2
open Sem (wp) in
theorem meets_enumG {v : Value} {hp' : Heap → Heap} {it : Heap → Addr} {H : Heap → Prop}
    (B : ∀ (prog : Program) (w : World) (A : Around) (E : Value → Shared → Prop) (s : Shared) (Q : Value → Shared → Prop), H s.heap → Q (.ref (it s.heap)) { s with heap := hp' s.heap } → wpAny (model prog w) A (pyIter v) Q E s) :
    Meets (Builtin.«enumerate.__new__» ⟨[.type "enumerate", v], []⟩) (fun _ R s => H s.heap ∧
      R (.ok (.ret (.ref (hp' s.heap).objs.size))) { s with heap := (hp' s.heap).push { cls := .type "enumerate", data := .fields #[.none, .bool false, .ref (it s.heap), rawInt 0, .none, .none] } }) :=
  .of_wp fun prog w A R s h => by
    obtain ⟨hp, g, d, tk, os⟩ := s
    obtain ⟨h1, h⟩ := h
    have hsub := sub_enumerate
    have q1 : ∀ {A' : Around} {E : Value → Shared → Prop} {Q : Value → Shared → Prop}, Q (.ref (it hp)) ⟨hp' hp, g, d, tk, os⟩ → wpAny (model prog w) A' (pyIter v) Q E ⟨hp, g, d, tk, os⟩ :=
      fun q => B prog w _ _ ⟨hp, g, d, tk, os⟩ _ h1 q
    wp_walk using q1
    refine wpAny_stack_any fun st => wpAny_pure ?_
    split
    · rename_i c _ _ _ _ _
      cases (c == Value.type "enumerate")
      · wp_walk using q1
        exact ⟨_, rfl, h⟩
      · wp_walk using q1
        exact ⟨_, rfl, h⟩
    · wp_walk using q1
      exact ⟨_, rfl, h⟩
section
variable {prog : Program} {w : World} {A : Around} {E : Value → Shared → Prop} {s : Shared}
theorem call_enumG {v : Value} {hp' : Heap → Heap} {it : Heap → Addr} {H : Heap → Prop} {Q : Value → Shared → Prop}
    (B : ∀ (prog : Program) (w : World) (A : Around) (E : Value → Shared → Prop) (s : Shared) (Q : Value → Shared → Prop), H s.heap → Q (.ref (it s.heap)) { s with heap := hp' s.heap } → wpAny (model prog w) A (pyIter v) Q E s)
    (h1 : H s.heap) (hk : ∀ b o, s.heap.get? b = some o → (hp' s.heap).get? b = some o)
    (h : ∀ h', IsEnum h' (hp' s.heap).objs.size (it s.heap) 0 .none → (∀ b o, (hp' s.heap).get? b = some o → h'.get? b = some o) → h'.objs.size = (hp' s.heap).objs.size + 1 → Q (.ref (hp' s.heap).objs.size) { s with heap := h' }) :
    wpAny (model prog w) A (call (.type "enumerate") [v]) Q E s := by
  refine callType_new F.called_enumerate (by decide) (F.typeCall_enumerate_1 _) (F.newCall_enumerate_1 _) (fun obj => F.args_object_init_2 obj _) F.entry_enumerate_new (meets_enumG B) ⟨h1, ?_⟩
  have he : IsEnum ((hp' s.heap).push { cls := .type "enumerate", data := .fields #[.none, .bool false, .ref (it s.heap), rawInt 0, .none, .none] }) (hp' s.heap).objs.size (it s.heap) 0 .none := Heap.get?_push_size _ rfl
  exact ⟨⟨_, he, rfl⟩, h _ he (fun b o x => Heap.get?_push_of_some _ x) (Heap.size_push ..)⟩
end
section
variable {prog : Program} {w : World} {A : Around} {E : Value → Shared → Prop} {s : Shared}
theorem enum_end_of {e it : Addr} {i : Int} {old : Value} {Q : Option Value → Shared → Prop} (he : IsEnum s.heap e it i old)
    (hd : ∀ (Q : Value → Shared → Prop) (E : Value → Shared → Prop), (∀ h' e, Heap.ExtBut it s.heap h' → (∃ o, h'.get? e = some o ∧ o.cls = .type "StopIteration") → E (.ref e) { s with heap := h' }) → wpAny (model prog w) A.in1 (Builtin.SmallTypes.nextOf (.ref it)) Q E s)
    (hQ : ∀ h', Heap.ExtBut it s.heap h' → Q none { s with heap := h' }) : wpAny (model prog w) A (pyNext (.ref e)) Q E s := by
  have hT : s.TypeIs (.ref e) "enumerate" := ⟨_, he, rfl⟩
  unfold pyNext
  refine wpAny_bind (wpAny_attempt (wpAny_callSpecial?_slot (name := Str.ofString "__next__") hT F.slot_enumerate_next
    (wpAny_call_entry F.slot_enumerate_next hT F.entry_enumerate_next ?_ (F.args_enumerate_next_1 _))))
  show wpAny _ _ (field (.ref e) 2 >>= _) _ _ _
  refine wpAny_bind (wpAny_field he rfl (x := .ref it) rfl ?_)
  refine wpAny_bind (hd _ _ fun h' x he' hx' => ?_)
  obtain ⟨o, ho, hc⟩ := hx'
  refine wpAny_bind (wpAny_isInstance (T := "StopIteration") (b := true) ⟨o, ho, hc⟩ isSubtype_stop ?_)
  exact wpAny_pure (hQ _ he')
end
/-- the tuple at a at each turn, each item in a new pair -/
def IteT (K : PySem.W.Frag) (a : Addr) : It :=
  ⟨fun i H => ∃ (xs : List V) (x : V), SqT K H a xs ∧ xs[i]? = some x, fun i H v H' => ∃ T x, v = .ref T ∧ H T = none ∧ H' = upd H T (.tup [.int (i : Nat), x]) ∧ ∀ xs, SqT K H a xs → xs[i]? = some x, fun i H => ∃ xs : List V, SqT K H a xs ∧ xs.length ≤ i⟩
theorem turn_enumT {P : Program} {w : World} {K : PySem.W.Frag} {elts : List Expr} {kk : Nat} {tpos : Pos} (a e it : Addr) :
    Turn P w K (.Tuple elts kk tpos) (IteT K a) [e, it] e (fun i h => (∃ old, IsEnum h e it ((i : Nat) : Int) old) ∧ h.IsTupleIter it a i ∧ e ≠ it ∧ e ≠ a ∧ it ≠ a) where
  mem := by simp
  obj := fun i h st b hb => by
    obtain ⟨⟨old, he⟩, ⟨o, ho, hc, hd⟩, _⟩ := st
    have e' : b = e ∨ b = it := by simpa using hb
    rcases e' with z | z
    · rw [z]; exact ⟨_, he, fun v q => nomatch q⟩
    · rw [z]; exact ⟨o, ho, fun v q => by rw [hd] at q; cases q⟩
  keep := fun i h h' st k => let ⟨⟨old, he⟩, hi, hne⟩ := st; ⟨⟨old, k e (by simp) _ he⟩, hi.at fun o q => k it (by simp) o q, hne⟩
  item := by
    intro X hP hw hK hc i pins s σ H E I hf st hg
    subst hP hw hK
    obtain ⟨⟨old, he⟩, hit, hne, hea, hia⟩ := st
    obtain ⟨xs, x, hq, hx⟩ := hg
    obtain ⟨its, rv, p, hz⟩ := I.tuple hq
    obtain ⟨u, hu, ru⟩ := rv.get hx
    have hel : e < s.heap.objs.size := Heap.lt_size he
    have hil : it < s.heap.objs.size := by obtain ⟨_, q, _⟩ := hit; exact Heap.lt_size q
    have hlt : i < its.toArray.size := by
      have := (List.getElem?_eq_some_iff.mp hu).1
      simpa using this
    have pt : s.heap.IsTuple a its.toArray := p
    refine wpAny_pyNext_enum_itemD (Draws.tuple (A := X.A.in1) (show X.A.in1.handled = none from I.ok.hd hc) it a (Ne.symm hia) its.toArray) he ⟨hit, pt⟩ hlt hne (show e ∉ [it, a] by simp [hne, hea]) fun u' h' tk hu' ho hit' hT hsz hk => ?_
    have eu : u' = u := by
      have := hu'
      simp only [List.getElem?_toArray] at this
      rw [hu] at this
      exact (Option.some.inj this).symm
    subst eu
    refine ⟨_, rfl, wpAny_letOwnedTupleGo_enum (s := { s with heap := h', toks := tk + 1 }) ho fun h'' he' sb => ?_⟩
    have hT2 : h''.get? s.heap.objs.size = some { cls := .type "tuple", data := .seq #[.int i tk, u'] } := (sb.2 _ (Nat.ne_of_gt hel)).trans hT
    have new : ObjOk X.prog X.w (upd H s.heap.objs.size (.tup [.int (i : Nat), x])) h'' s.heap.objs.size (.tup [.int (i : Nat), x]) :=
      ⟨by show 2 ≤ sizeLine; decide, [.int i tk, u'], .cons ⟨_, rfl⟩ (.cons ru .nil), ⟨_, hT2, rfl, _, rfl⟩⟩
    have I1 : Inv X pins σ (upd H s.heap.objs.size (.tup [.int (i : Nat), x])) { s with heap := h'', toks := tk + 1 } :=
      I.turnedNew (ch := [e, it]) (fun b ob hb q => (sb.2 b (fun z => hb (by simp [z]))).trans (hk b ob (fun z => hb (by simp [z])) (fun z => hb (by simp [z])) q)) hf (Nat.le_refl _) new
    refine ⟨.ref s.heap.objs.size, _, I1, rfl, ⟨_, x, rfl, I.hok.fresh (Nat.le_refl _), rfl, fun ys hy => by rw [I.tuple_inj hy hq]; exact hx⟩, ⟨⟨u', ?_⟩, hit'.1.at fun o q => (sb.2 it (Ne.symm hne)).trans q, hne, hea, hia⟩, fun b hb => ?_⟩
    · have e1 : ((i + 1 : Nat) : Int) = (i : Int) + 1 := by omega
      rw [e1]; exact he'
    · have hb' : b < s.heap.objs.size := by
        have e' : b = e ∨ b = it := by simpa using hb
        rcases e' with z | z
        · rw [z]; exact hel
        · rw [z]; exact hil
      rw [upd_ne (Nat.ne_of_lt hb')]
      exact (hf b hb).1
  done := by
    intro X hP hw hK hc i pins s σ H E I hf st hg
    subst hP hw hK
    obtain ⟨⟨old, he⟩, hit, hne, hea, hia⟩ := st
    obtain ⟨xs, hq, hx⟩ := hg
    obtain ⟨its, rv, p, hz⟩ := I.tuple hq
    obtain ⟨f0, f1, f2, f3, f4, f5⟩ := hf it (by simp)
    have hl := rv.length
    have pt : s.heap.IsTuple a its.toArray := p
    have hge : its.toArray.size ≤ i := by simp; omega
    exact enum_end_of he (fun Q E hE => wpAny_nextOf_tuple_end (show X.A.in1.handled = none from I.ok.hd hc) hit pt (Array.getElem?_eq_none hge) hE) fun h' eb => ⟨rfl, I.turned (t' := s.toks) (fun b o hb q => eb b o hb q) f0 f1 f3 f4 f5⟩
  self := fun A i s Q E st h => let ⟨⟨_, he⟩, _⟩ := st; wpAny_pyIter_enum he h

theorem itr_enumT {K : PySem.W.Frag} {w : W3} {a : Addr} {ds : List PyData} (h : Dp K w.h (.ref a) (.tuple ds)) : ItR K w (IteT K a) (enum3 ds) fun _ => True := fun w' H S e r _ => by
  obtain ⟨a', xs, ea, hqa, ha⟩ := dp_tup_ref (dp_mono e.h _ _ h)
  cases ea
  have hqa' := Same.sqT r.sub hqa
  have la := DpAll.length ha
  refine ⟨fun i hi => ⟨xs, hqa', by rw [enum3_len] at hi; omega⟩, fun i x hx => ?_⟩
  obtain ⟨x1, g1, rfl⟩ := enum3_get hx
  obtain ⟨v1, k1, k2⟩ := DpAll.get ha g1
  refine ⟨⟨xs, v1, hqa', k1⟩, fun v H' y => ?_⟩
  obtain ⟨T, y1, rfl, hn, rfl, z1⟩ := y
  have := (z1 _ hqa').symm.trans k1
  cases this
  exact pair_in r hn (.int _) k2
def iEnumT (K : PySem.W.Frag) (ta : TA) : TI := fun σ H R => ta σ H fun vs H1 => ∃ a xs, vs = [.ref a] ∧ SqT K H1 a xs ∧ R (IteT K a) H1
section
variable {X : Cx} {e : Expr} {ta : TA} {te : TA3} {p pos tpos : Pos} {elts : List Expr} {kk : Nat}
def iEnumA (K : PySem.W.Frag) (ta : TA) : TI := fun σ H R => ta σ H fun vs H1 => ∃ a xs, vs = [.ref a] ∧ ((SqL K H1 a xs ∧ R (Ite K a) H1) ∨ (SqT K H1 a xs ∧ R (IteT K a) H1))
theorem pi_enumA (hg : Gl X "enumerate") (hm : X.mg "enumerate" = none) (ha : PA X [e] ta) (hs : starEach [e] X.env = [(false, eval e X.env)] := by rfl) :
    PI X (.Tuple elts kk tpos) (.Call (.Name "enumerate" p) [e] [] pos) (iEnumA X.K ta) := by
  refine ⟨fun pins s σ H R I h => ?_⟩
  refine Call_ (ld_blt I hg hm boot_enumerate (PyProof.Rows.callWith_type1 (thn (ha.run pos pins s σ H _ I h) fun us s1 ⟨vs, H1, I1, r1, q1⟩ => ?_) hs rfl))
  obtain ⟨a, xs, ex, q⟩ := q1
  subst ex
  cases r1 with
  | cons r rr =>
    cases rr
    cases r
    rcases q with ⟨hq, q⟩ | ⟨hq, q⟩
    · obtain ⟨its, rv, p', hz⟩ := I1.list hq
      refine call_enumerate_list p'.isList fun h' he hit hsz hk => wpAny_pyIter_enum he ?_
      have I2 : Inv X pins σ H1 { s1 with heap := h' } := I1.kept (t' := s1.toks) hk
      refine ⟨s1.heap.objs.size + 1, [s1.heap.objs.size + 1, s1.heap.objs.size], _, _, H1, rfl, I2, turn_enum a (s1.heap.objs.size + 1) s1.heap.objs.size, ⟨⟨.none, he⟩, hit, Nat.succ_ne_self _⟩, fun b hb => ?_, q⟩
      have e' : b = s1.heap.objs.size + 1 ∨ b = s1.heap.objs.size := by simpa using hb
      have hle : s1.heap.objs.size ≤ b := by
        rcases e' with z | z
        · rw [z]; exact Nat.le_add_right _ _
        · rw [z]; exact Nat.le_refl _
      exact I1.fpOk hle (I1.hok.fresh hle)
    · obtain ⟨its, rv, p', hz⟩ := I1.tuple hq
      have pt : s1.heap.IsTuple a its.toArray := p'
      have B := begins_tuple a its.toArray
      have hlt : a < s1.heap.objs.size := p'.lt
      refine call_enumG (hp' := fun h => h.push { cls := .type "tuple_iterator", data := .fields #[.ref a, .int 0 0] }) (it := fun h => h.objs.size) (H := fun h => h.IsTuple a its.toArray) B.iter pt (fun b o x => Heap.get?_push_of_some _ x) fun h' he hk hsz => wpAny_pyIter_enum he ?_
      have hz' : (s1.heap.push { cls := .type "tuple_iterator", data := .fields #[.ref a, .int 0 0] }).objs.size = s1.heap.objs.size + 1 := Heap.size_push ..
      have hk' : ∀ b o, s1.heap.get? b = some o → h'.get? b = some o := fun b o x => hk b o (Heap.get?_push_of_some _ x)
      have hit : h'.IsTupleIter s1.heap.objs.size a 0 := ⟨_, hk _ _ (Heap.get?_push_size _ rfl), rfl, rfl⟩
      have I2 : Inv X pins σ H1 { s1 with heap := h' } := I1.kept (t' := s1.toks) hk'
      simp only [hz'] at he ⊢
      refine ⟨s1.heap.objs.size + 1, [s1.heap.objs.size + 1, s1.heap.objs.size], _, _, H1, rfl, I2, turn_enumT a (s1.heap.objs.size + 1) s1.heap.objs.size, ⟨⟨.none, he⟩, hit, Nat.succ_ne_self _, Nat.ne_of_gt (Nat.lt_succ_of_lt hlt), Nat.ne_of_gt hlt⟩, fun b hb => ?_, q⟩
      have e' : b = s1.heap.objs.size + 1 ∨ b = s1.heap.objs.size := by simpa using hb
      have hle : s1.heap.objs.size ≤ b := by
        rcases e' with z | z
        · rw [z]; exact Nat.le_add_right _ _
        · rw [z]; exact Nat.le_refl _
      exact I1.fpOk hle (I1.hok.fresh hle)
def tEnumA3 (ta : TA3) : TI3 := fun env S Q => ta env S fun ds S1 => match ds with
  | [.p (.tuple xs)] => Q (enum3 xs) (fun _ => True) S1
  | [x] => (match lst3 S1 x with
    | some xs => Q (enum3 xs) (fun S => lst3 S x = some xs) S1
    | _ => False)
  | _ => False
theorem qi_enumA (hc : X.calm = true) (hg : Gl X "enumerate") (hm : X.mg "enumerate" = none) (ha : QA X [e] te) (hs : starEach [e] X.env = [(false, eval e X.env)] := by rfl) :
    QI X (.Tuple elts kk tpos) (.Call (.Name "enumerate" p) [e] [] pos) (tEnumA3 te) := (pi_enumA hg hm ha hs).imp fun σ H R ⟨w, env, S, Q, r0, en, t, q⟩ => by
  refine ⟨w, env, S, _, r0, en, t, fun w1 vs ds H1 S1 e1 r1 p1 t1 => ?_⟩
  split at t1
  · obtain ⟨v, rfl, p2⟩ := rds1 p1
    obtain ⟨a, xs, rfl, hqa, ha⟩ := dp_tup_ref p2
    have l1 := len_tup r1 p2
    exact ⟨a, xs, rfl, .inr ⟨Same.sqT r1.sub hqa, q w1 _ H1 S1 _ _ e1 r1 (itr_enumT p2) (by rw [enum3_len]; exact l1) t1⟩⟩
  · obtain ⟨v, rfl, p2⟩ := rds1 p1
    split at t1
    · rename_i xs' h1
      obtain ⟨a, xs, rfl, hqa, ha, hla⟩ := lst3_low r1 p2 h1
      exact ⟨a, xs, rfl, .inl ⟨hqa, q w1 _ H1 S1 _ _ e1 r1 (itr_enum p2) (by rw [enum3_len]; exact hla) t1⟩⟩
    · exact t1.elim
  · exact t1.elim
end

/-! ### enumerate(reversed(tuple)) -/
open RT
section
variable {prog : Program} {w : World} {A : Around} {E : Value → Shared → Prop} {s : Shared}
theorem nextOf_rt_item {it t : Addr} {i : Nat} {items : Array Value} {x : Value} {Q : Value → Shared → Prop} (hit : IsRt s.heap it t (i : Int)) (ht : IsTup s.heap t items) (hx : items[i]? = some x) (hsz : items.size ≤ sizeLine)
    (hQ : ∀ h', IsRt h' it t ((i : Int) - 1) → Heap.SameBut it s.heap h' → Q x { s with heap := h', toks := s.toks + 1 }) : wpAny (model prog w) A (Builtin.SmallTypes.nextOf (.ref it)) Q E s := by
  obtain ⟨o, ho, hc, hd⟩ := id hit
  have hi : i < items.size := (Array.getElem?_eq_some_iff.mp hx).1
  have hT : s.TypeIs (.ref t) "tuple" := IsTup.typeOf' ht
  rw [sizeLine_eq] at hsz
  unfold Builtin.SmallTypes.nextOf
  refine wpAny_bind (wpAny_callSpecial?_slot (name := Str.ofString "__next__") hit.typeIs slot_rt_next
    (wpAny_call_entry slot_rt_next hit.typeIs entry_rt_next ?_ (args_rt_next _)))
  unfold Builtin.«reversed.__next__»
  refine wpAny_bind (wpAny_of_eq (a := (Value.ref it, [])) rfl ?_)
  try dsimp only
  refine wpAny_bind (wpAny_field ho hd (x := .ref t) rfl ?_)
  try dsimp only
  refine wpAny_bind (wpAny_field ho hd (x := rawInt (i : Int)) rfl ?_)
  show wpAny _ _ (if (i : Int) < 0 then _ else _) _ _ s
  rw [if_neg (by omega)]
  try dsimp only
  refine wpAny_bind (wpAny_specialOf hT get_tuple ?_)
  try dsimp only
  try rw [if_neg (by decide)]
  try dsimp only
  refine wpAny_bind (wpAny_mkInt ?_)
  refine wpAny_bind (wpAny_attempt ?_)
  have fin : seqIndex? (i : Int) items.size = some i := seqIndex_of (by omega) (by omega)
  refine PyProof.Rows.getItem_tuple (s := { s with toks := s.toks + 1 }) ht (by omega) (by omega) fin hx ?_
  try dsimp only
  refine wpAny_bind (wpAny_field (s := { s with toks := s.toks + 1 }) ho hd (x := rawInt (i : Int)) rfl ?_)
  try dsimp only
  refine wpAny_bind (wpAny_setField (s := { s with toks := s.toks + 1 }) ho hd (by simp) ?_)
  have fin2 := hQ _ (show IsRt (s.heap.update it (Obj.mapFields (·.setIfInBounds 1 (rawInt ((i : Int) - 1))))) it t ((i : Int) - 1) from ⟨_, Heap.get?_update_self _ ho (Obj.isFreed_of_fields (Obj.data_mapFields hd _)), (Obj.cls_mapFields ..).trans hc, by
    rw [Obj.data_mapFields hd]; simp⟩) (Heap.SameBut.update ..)
  first
  | exact wpAny_pure ⟨x, rfl, wpAny_pure fin2⟩
  | exact wpAny_bind (wpAny_pure (wpAny_pure ⟨x, rfl, wpAny_pure fin2⟩))
theorem nextOf_rt_end {it t : Addr} {Q : Value → Shared → Prop} (hh : A.handled = none) (hit : IsRt s.heap it t (-1))
    (hE : ∀ h' e, Heap.ExtBut it s.heap h' → (∃ o, h'.get? e = some o ∧ o.cls = .type "StopIteration") → E (.ref e) { s with heap := h' }) : wpAny (model prog w) A (Builtin.SmallTypes.nextOf (.ref it)) Q E s := by
  obtain ⟨o, ho, hc, hd⟩ := id hit
  unfold Builtin.SmallTypes.nextOf
  refine wpAny_bind (wpAny_callSpecial?_slot (name := Str.ofString "__next__") hit.typeIs slot_rt_next
    (wpAny_call_entry slot_rt_next hit.typeIs entry_rt_next ?_ (args_rt_next _)))
  unfold Builtin.«reversed.__next__»
  refine wpAny_bind (wpAny_of_eq (a := (Value.ref it, [])) rfl ?_)
  try dsimp only
  refine wpAny_bind (wpAny_field ho hd (x := .ref t) rfl ?_)
  try dsimp only
  refine wpAny_bind (wpAny_field ho hd (x := rawInt (-1)) rfl ?_)
  show wpAny _ _ (if (-1 : Int) < 0 then _ else _) _ _ s
  rw [if_pos (by decide)]
  try dsimp only
  refine wpAny_bind (wpAny_rule ?_)
  refine wpAny_bind ?_
  wp_delta
  refine wpAny_bind (wpAny_setField ho hd (by simp) ?_)
  have ho2 := Heap.get?_update_self (Obj.mapFields (·.setIfInBounds 1 (rawInt (-1)))) ho (Obj.isFreed_of_fields (Obj.data_mapFields hd _))
  refine wpAny_setField (s := { s with heap := s.heap.update it (Obj.mapFields (·.setIfInBounds 1 (rawInt (-1)))) }) ho2 (Obj.data_mapFields hd _) (by simp) ?_
  try dsimp only
  first
  | show wpAny _ _ (newExc (.type "StopIteration") [] >>= _) _ _ _
  | (refine wpAny_bind ?_; show wpAny _ _ (newExc (.type "StopIteration") [] >>= _) _ _ _)
  | (refine wpAny_bind ?_; wp_delta; show wpAny _ _ (newExc (.type "StopIteration") [] >>= _) _ _ _)
  refine wpAny_bind ?_
  simp only [newExc, newTuple]
  refine wpAny_bind (wpAny_newObj_type ?_ (by size_fits))
  refine wpAny_bind (m := firstArgMember _ _) (wpAny_of_eq (a := Value.none) (by first | rfl | (simp only [firstArgMember]; rfl)) ?_)
  refine wpAny_newObj_type ?_ (by size_fits)
  simp only [raiseNew]
  refine wpAny_bind (wpAny_handled ?_)
  first | rw [show A.in1.handled = none from hh] | rw [hh]
  refine wpAny_bind (wpAny_pure (wpAny_throw ?_))
  refine hE _ _ ?_ ⟨_, Heap.get?_push_size _ rfl, rfl⟩
  refine ((?_ : Heap.ExtBut it s.heap _).push _).push _
  exact fun b ob hb e => (Heap.get?_update_other _ _ (Ne.symm hb)).trans ((Heap.get?_update_other _ _ (Ne.symm hb)).trans e)
theorem draws_rt (hh : A.handled = none) (it t : Addr) (hne : t ≠ it) (items : Array Value) (hsz : items.size ≤ sizeLine) :
    Draws prog w A it [it, t] items.size (fun i v => items[items.size - 1 - i]? = some v) (fun i h => i ≤ items.size ∧ IsRt h it t ((items.size : Int) - 1 - (i : Nat)) ∧ h.IsTuple t items) where
  live := fun _ _ st => let ⟨_, ⟨o, ho, _⟩, _⟩ := st; ⟨o, ho⟩
  frame := fun _ _ _ st hk => ⟨st.1, st.2.1.at fun o e => hk it (by simp) o e, st.2.2.at fun o e => hk t (by simp) o e⟩
  item := fun i s Q E hi st hQ => by
    have hlt : items.size - 1 - i < items.size := by omega
    have e1 : (items.size : Int) - 1 - ((i : Nat) : Int) = ((items.size - 1 - i : Nat) : Int) := by omega
    have st2 := st.2.1
    rw [e1] at st2
    refine nextOf_rt_item st2 st.2.2 (x := items[items.size - 1 - i]) (Array.getElem?_eq_getElem hlt) hsz fun h' st' sb => ?_
    have e2 : ((items.size - 1 - i : Nat) : Int) - 1 = (items.size : Int) - 1 - ((i + 1 : Nat) : Int) := by omega
    rw [e2] at st'
    exact hQ _ h' (s.toks + 1) (Array.getElem?_eq_getElem hlt) ⟨by omega, st', st.2.2.extBut sb.extBut hne⟩ sb
  done := fun s Q E st hE => by
    have st2 := st.2.1
    have e1 : (items.size : Int) - 1 - ((items.size : Nat) : Int) = -1 := by omega
    rw [e1] at st2
    exact nextOf_rt_end hh st2 hE
end
/-- the tuple at a from its end, each item in a new pair -/
def IteR (K : PySem.W.Frag) (a : Addr) (n : Nat) : It :=
  ⟨fun i H => i < n ∧ ∃ (xs : List V) (x : V), SqT K H a xs ∧ xs.length = n ∧ xs[n - 1 - i]? = some x, fun i H v H' => ∃ T x, v = .ref T ∧ H T = none ∧ H' = upd H T (.tup [.int (i : Nat), x]) ∧ ∀ xs, SqT K H a xs → xs[n - 1 - i]? = some x, fun i _ => n ≤ i⟩
theorem turn_enumR {P : Program} {w : World} {K : PySem.W.Frag} {elts : List Expr} {kk : Nat} {tpos : Pos} (a e it : Addr) (n : Nat) :
    Turn P w K (.Tuple elts kk tpos) (IteR K a n) [e, it] e (fun i h => (∃ old, IsEnum h e it ((i : Nat) : Int) old) ∧ (i ≤ n ∧ IsRt h it a ((n : Int) - 1 - (i : Nat))) ∧ e ≠ it ∧ e ≠ a ∧ it ≠ a) where
  mem := by simp
  obj := fun i h st b hb => by
    obtain ⟨⟨old, he⟩, ⟨_, o, ho, hc, hd⟩, _⟩ := st
    have e' : b = e ∨ b = it := by simpa using hb
    rcases e' with z | z
    · rw [z]; exact ⟨_, he, fun v q => nomatch q⟩
    · rw [z]; exact ⟨o, ho, fun v q => by rw [hd] at q; cases q⟩
  keep := fun i h h' st k => let ⟨⟨old, he⟩, hi, hne⟩ := st; ⟨⟨old, k e (by simp) _ he⟩, ⟨hi.1, hi.2.at fun o q => k it (by simp) o q⟩, hne⟩
  item := by
    intro X hP hw hK hc i pins s σ H E I hf st hg
    subst hP hw hK
    obtain ⟨⟨old, he⟩, ⟨hin, hit⟩, hne, hea, hia⟩ := st
    obtain ⟨hlt, xs, x, hq, hxl, hx⟩ := hg
    obtain ⟨its, rv, p, hz⟩ := I.tuple hq
    obtain ⟨u, hu, ru⟩ := rv.get hx
    have hl := rv.length
    have hsz : its.toArray.size = n := by rw [List.size_toArray]; omega
    have hel : e < s.heap.objs.size := Heap.lt_size he
    have hil : it < s.heap.objs.size := by obtain ⟨_, q, _⟩ := hit; exact Heap.lt_size q
    have pt : s.heap.IsTuple a its.toArray := p
    refine wpAny_pyNext_enum_itemD (draws_rt (A := X.A.in1) (show X.A.in1.handled = none from I.ok.hd hc) it a (Ne.symm hia) its.toArray (by rw [hsz, ← hxl]; exact hz)) he ⟨by omega, by rw [hsz]; exact hit, pt⟩ (by omega) hne (show e ∉ [it, a] by simp [hne, hea]) fun u' h' tk hu' ho hit' hT hsz' hk => ?_
    have eu : u' = u := by
      have := hu'
      rw [hsz] at this
      simp only [List.getElem?_toArray] at this
      rw [hu] at this
      exact (Option.some.inj this).symm
    subst eu
    refine ⟨_, rfl, wpAny_letOwnedTupleGo_enum (s := { s with heap := h', toks := tk + 1 }) ho fun h'' he' sb => ?_⟩
    have hT2 : h''.get? s.heap.objs.size = some { cls := .type "tuple", data := .seq #[.int i tk, u'] } := (sb.2 _ (Nat.ne_of_gt hel)).trans hT
    have new : ObjOk X.prog X.w (upd H s.heap.objs.size (.tup [.int (i : Nat), x])) h'' s.heap.objs.size (.tup [.int (i : Nat), x]) :=
      ⟨by show 2 ≤ sizeLine; decide, [.int i tk, u'], .cons ⟨_, rfl⟩ (.cons ru .nil), ⟨_, hT2, rfl, _, rfl⟩⟩
    have I1 : Inv X pins σ (upd H s.heap.objs.size (.tup [.int (i : Nat), x])) { s with heap := h'', toks := tk + 1 } :=
      I.turnedNew (ch := [e, it]) (fun b ob hb q => (sb.2 b (fun z => hb (by simp [z]))).trans (hk b ob (fun z => hb (by simp [z])) (fun z => hb (by simp [z])) q)) hf (Nat.le_refl _) new
    have hit2 := hit'.2.1
    rw [hsz] at hit2
    refine ⟨.ref s.heap.objs.size, _, I1, rfl, ⟨_, x, rfl, I.hok.fresh (Nat.le_refl _), rfl, fun ys hy => by rw [I.tuple_inj hy hq]; exact hx⟩, ⟨⟨u', ?_⟩, ⟨by omega, hit2.at fun o q => (sb.2 it (Ne.symm hne)).trans q⟩, hne, hea, hia⟩, fun b hb => ?_⟩
    · have e1 : ((i + 1 : Nat) : Int) = (i : Int) + 1 := by omega
      rw [e1]; exact he'
    · have hb' : b < s.heap.objs.size := by
        have e' : b = e ∨ b = it := by simpa using hb
        rcases e' with z | z
        · rw [z]; exact hel
        · rw [z]; exact hil
      rw [upd_ne (Nat.ne_of_lt hb')]
      exact (hf b hb).1
  done := by
    intro X hP hw hK hc i pins s σ H E I hf st hg
    subst hP hw hK
    obtain ⟨⟨old, he⟩, ⟨hin, hit⟩, hne, hea, hia⟩ := st
    have hi : n ≤ i := hg
    obtain ⟨f0, f1, f2, f3, f4, f5⟩ := hf it (by simp)
    have e1 : (n : Int) - 1 - ((i : Nat) : Int) = -1 := by omega
    rw [e1] at hit
    exact enum_end_of he (fun Q E hE => nextOf_rt_end (show X.A.in1.handled = none from I.ok.hd hc) hit hE) fun h' eb => ⟨rfl, I.turned (t' := s.toks) (fun b o hb q => eb b o hb q) f0 f1 f3 f4 f5⟩
  self := fun A i s Q E st h => let ⟨⟨_, he⟩, _⟩ := st; wpAny_pyIter_enum he h
theorem itr_enumR {K : PySem.W.Frag} {w : W3} {a : Addr} {ds : List PyData} (h : Dp K w.h (.ref a) (.tuple ds)) : ItR K w (IteR K a ds.length) (enum3 ds.reverse) fun _ => True := fun w' H S e r _ => by
  obtain ⟨a', xs, ea, hqa, ha⟩ := dp_tup_ref (dp_mono e.h _ _ h)
  cases ea
  have hqa' := Same.sqT r.sub hqa
  have la := DpAll.length ha
  refine ⟨fun i hi => ?_, fun i x hx => ?_⟩
  · rw [enum3_len, List.length_reverse] at hi
    exact hi
  · obtain ⟨x1, g1, rfl⟩ := enum3_get hx
    obtain ⟨g0, g1⟩ := rev_get g1
    obtain ⟨v1, k1, k2⟩ := DpAll.get ha g1
    refine ⟨⟨g0, xs, v1, hqa', la, k1⟩, fun v H' y => ?_⟩
    obtain ⟨T, y1, rfl, hn, rfl, z1⟩ := y
    have := (z1 _ hqa').symm.trans k1
    cases this
    exact pair_in r hn (.int _) k2
section
variable {X : Cx} {e : Expr} {te : TE} {t3 : TE3} {p p2 pos pos2 tpos : Pos} {elts : List Expr} {kk : Nat}
def iEnumR (K : PySem.W.Frag) (te : TE) : TI := fun σ H R => te σ H fun v H1 => ∃ a xs, v = .ref a ∧ SqT K H1 a xs ∧ R (IteR K a xs.length) H1
theorem pi_enumR (hg : Gl X "enumerate") (hm : X.mg "enumerate" = none) (hg2 : Gl X "reversed") (hm2 : X.mg "reversed" = none) (he : PE X e te) (hs : starEach [e] X.env = (false, eval e X.env) :: starEach [] X.env := by rfl)
    (hs2 : starEach [.Call (.Name "reversed" p2) [e] [] pos2] X.env = (false, eval (.Call (.Name "reversed" p2) [e] [] pos2) X.env) :: starEach [] X.env := by rfl) :
    PI X (.Tuple elts kk tpos) (.Call (.Name "enumerate" p) [.Call (.Name "reversed" p2) [e] [] pos2] [] pos) (iEnumR X.K te) := by
  refine ⟨fun pins s σ H R I h => ?_⟩
  have inner : wpAny (model X.prog X.w) X.A (eval (.Call (.Name "reversed" p2) [e] [] pos2) X.env) (fun u s2 => ∃ (it a : Addr) (xs : List V) (H1 : Hp), u = Value.ref it ∧ Inv X pins σ H1 s2 ∧ IsRt s2.heap it a ((xs.length : Int) - 1 - ((0 : Nat) : Int)) ∧ FpOk X pins H1 it ∧ it ≠ a ∧ it < s2.heap.objs.size ∧ a < s2.heap.objs.size ∧ R (IteR X.K a xs.length) H1) X.xe s := by
    refine Call_ (ld_blt I hg2 hm2 PyProof.Rows.boot_reversed (PyProof.Rows.callWith_type1 (args_cons (thn (he.run pins s σ H _ I h) fun u s1 ⟨v, H1, I1, r1, q1⟩ => args_nil ?_) hs) hs rfl))
    obtain ⟨a, xs, ev, hq, q⟩ := q1
    subst ev
    obtain rfl : u = Value.ref a := r1
    obtain ⟨its, rv, p', hz⟩ := I1.tuple hq
    have hl := rv.length
    have hn := line63
    have e1 : ((its.toArray.size : Nat) : Int) - 1 = (xs.length : Int) - 1 - ((0 : Nat) : Int) := by simp only [List.size_toArray]; omega
    have hlt : a < s1.heap.objs.size := p'.lt
    refine call_reversed_tup p' (fun A E Q k => len_tuple p' (by simp only [List.size_toArray] <;> omega) k) ?_
    have hz' : (s1.heap.push (rtObj a ((its.toArray.size : Int) - 1))).objs.size = s1.heap.objs.size + 1 := Heap.size_push ..
    refine ⟨s1.heap.objs.size, a, xs, H1, rfl, I1.kept (t' := s1.toks + 1 + 1) (fun b o x => Heap.get?_push_of_some _ x), ?_, I1.fpOk (Nat.le_refl _) (I1.hok.fresh (Nat.le_refl _)), Nat.ne_of_gt hlt, ?_, ?_, q⟩
    · rw [← e1]
      exact ⟨_, Heap.get?_push_size _ rfl, rfl, rfl⟩
    · show s1.heap.objs.size < (s1.heap.push _).objs.size
      rw [hz']
      exact Nat.lt_succ_self _
    · show a < (s1.heap.push _).objs.size
      rw [hz']
      exact Nat.lt_succ_of_lt hlt
  refine Call_ (ld_blt I hg hm boot_enumerate (PyProof.Rows.callWith_type1 (args_cons (thn inner fun u s2 hx => args_nil ?_) hs2) hs2 rfl))
  obtain ⟨it, a, xs, H1, rfl, I2, hit, hf, hia, hlt, hla, q⟩ := hx
  refine call_enumG (v := .ref it) (hp' := fun h => h) (it := fun _ => it) (H := fun h => IsRt h it a ((xs.length : Int) - 1 - ((0 : Nat) : Int))) (fun prog w A E s Q h1 hQ => iter_rt h1 hQ) hit (fun b o x => x) fun h' he hk hsz => wpAny_pyIter_enum he ?_
  have I3 : Inv X pins σ H1 { s2 with heap := h' } := I2.kept (t' := s2.toks) hk
  refine ⟨s2.heap.objs.size, [s2.heap.objs.size, it], _, _, H1, rfl, I3, turn_enumR a s2.heap.objs.size it xs.length, ⟨⟨.none, he⟩, ⟨Nat.zero_le _, hit.at fun o q => hk it o q⟩, Nat.ne_of_gt hlt, Nat.ne_of_gt hla, hia⟩, fun b hb => ?_, q⟩
  have e' : b = s2.heap.objs.size ∨ b = it := by simpa using hb
  rcases e' with z | z
  · rw [z]
    exact I2.fpOk (Nat.le_refl _) (I2.hok.fresh (Nat.le_refl _))
  · rw [z]
    exact hf
def tEnumR3 (te : TE3) : TI3 := fun env S Q => te env S fun x S1 => match x with
  | .p (.tuple xs) => Q (enum3 xs.reverse) (fun _ => True) S1
  | _ => False
theorem qi_enumR (hc : X.calm = true) (hg : Gl X "enumerate") (hm : X.mg "enumerate" = none) (hg2 : Gl X "reversed") (hm2 : X.mg "reversed" = none) (he : QE X e t3) (hs : starEach [e] X.env = (false, eval e X.env) :: starEach [] X.env := by rfl)
    (hs2 : starEach [.Call (.Name "reversed" p2) [e] [] pos2] X.env = (false, eval (.Call (.Name "reversed" p2) [e] [] pos2) X.env) :: starEach [] X.env := by rfl) :
    QI X (.Tuple elts kk tpos) (.Call (.Name "enumerate" p) [.Call (.Name "reversed" p2) [e] [] pos2] [] pos) (tEnumR3 t3) := (pi_enumR hg hm hg2 hm2 he hs hs2).imp fun σ H R ⟨w, env, S, Q, r0, en, t, q⟩ => by
  refine ⟨w, env, S, _, r0, en, t, fun w1 v d H1 S1 e1 r1 p1 t1 => ?_⟩
  split at t1
  · obtain ⟨a, xs, rfl, hqa, ha⟩ := dp_tup_ref p1
    have l1 := len_tup r1 p1
    have la := DpAll.length ha
    refine ⟨a, xs, rfl, Same.sqT r1.sub hqa, ?_⟩
    rw [la]
    exact q w1 _ H1 S1 _ _ e1 r1 (itr_enumR p1) (by rw [enum3_len, List.length_reverse]; exact l1) t1
  · exact t1.elim
end
end L3

namespace L3
open PySem PySem.Spec PyProof.Rows L2
/-! ### a module's constant -/
theorem qe_gl {X : Cx} {x : Str} {d : PyData} {pos : Pos} (h : ∃ (u : Value) (v : V), X.mg x = some u ∧ RelV v u ∧ ∀ H, Dp X.K H v d) (hg : Gl X x) (hdb : (x == ("__debug__" : Str)) = false := by decide) : QE X (.Name x pos) (tC3 d) := by
  obtain ⟨u, v, h1, h2, h3⟩ := h
  exact qe_glob hg h1 h2 h3 hdb
/-! ### xs[i] op= e, a list of the store -/
section
variable {X : Cx}
theorem get_list : PGet X (fun x y H Q => ∃ p xs i v, x = .ref p ∧ y = .int i ∧ SqL X.K H p xs ∧ atI xs i = some v ∧ Q v H) := by
  intro pins s σ H o i ov iv Q I ro ri h
  obtain ⟨p, xs, k, z, rfl, rfl, hq, he, q⟩ := h
  cases ro
  obtain ⟨t, rfl⟩ := ri
  obtain ⟨its, r, pl, hz⟩ := I.list hq
  obtain ⟨j, h1, h2, h3, h4, h5⟩ := atI_get he
  obtain ⟨w, ew, rw'⟩ := r.get h2
  have hl := r.length
  have hn := line63
  have fin : EP X pins σ Q w s := ⟨z, H, I, rw', q⟩
  by_cases h0 : 0 ≤ k
  · have hj : k.toNat = j := by
      rw [seqIndex_of h0 h5] at h1
      exact Option.some.inj h1
    refine wpAny_getItem_list pl.isList (k := k) (x := w) ?_ ?_ ?_ fin
    all_goals first | omega | (simp; omega) | (rw [hj]; simpa using ew) | skip
  · have hj : (k + (its.toArray.size : Int)).toNat = j := by
      rw [seqIndex_neg (by omega) h4] at h1
      rw [List.size_toArray, ← hl]
      exact Option.some.inj h1
    exact wpAny_getItem_list_neg pl.isList (by omega) (by rw [List.size_toArray] <;> omega) (by omega) (by rw [hj]; simpa using ew) fin
/-- o[i] op= e -/
def tAugI3 (to ti te : TE3) (r : R3) : TS3 := fun D env S => to env S fun o S1 => ti env S1 fun i S2 => match own3 S2 o, i with
  | some (n, ds), .p (.int k) => (match atI ds k with
    | some x => te env S2 fun y S3 => r (.p x) y S3 fun z S4 => match own3 S4 o, z with
      | some (n', ds'), .p d => (match ixN ds'.length k with
        | some j => D.nx env (S4.set n' (some (.lst (ds'.set j d))))
        | none => False)
      | _, _ => False
    | none => False)
  | _, _ => False
theorem qs_augI {o i e : Expr} {to ti te : TE3} {op : Operator} {r : R3} {tip : TIp} {tpos pos : Pos} (ho : QE X o to) (hi : QE X i ti) (he : QE X e te) (hop : PIp X op tip ∧ ∀ x y H R, lowR X.K r x y H R → tip x y H R)
    (ha : ∀ ov iv new, augStore i ov iv new = (do holding [new, ov, iv] (setItem ov iv new); release [new, ov, iv] []; pure .next) := by intros; rfl) : QS X (.AugAssign (.Subscript o i tpos) op e pos) (tAugI3 to ti te r) :=
  (ps_augS ho hi get_list he hop.1 set_list ha).imp fun D σ H ⟨w, env, S, D3, r0, en, t, q⟩ => by
    refine ⟨w, env, S, _, r0, en, t, fun w1 v d H1 S1 e1 r1 p1 t1 => ?_⟩
    refine ⟨w1, env, S1, _, r1, en.mono e1, t1, fun w2 u c H2 S2 e2 r2 p2 t2 => ?_⟩
    split at t2
    rotate_left
    · exact t2.elim
    rename_i n ds k ho1
    split at t2
    rotate_left
    · exact t2.elim
    rename_i x hx
    obtain ⟨a, xs, hva, hd0, ha1, hs1, hu1, hd1, hz1⟩ := own3_low r2 (p1.mono e2) ho1
    subst hva
    obtain ⟨v1, g1, g2⟩ := atI_dp hd1 hx
    refine ⟨a, xs, k, v1, rfl, dp_int p2, .inl (.inl hu1), g1, ?_⟩
    refine ⟨w2, env, S2, _, r2, (en.mono e1).mono e2, t2, fun w3 y c3 H3 S3 e3 r3 p3 t3 => ?_⟩
    refine hop.2 _ _ _ _ ⟨w3, S3, .p x, c3, _, r3, RepD.mono (d := .p x) e3 g2, p3, t3, fun w4 z c4 H4 S4 e4 r4 p4 t4 => ?_⟩
    split at t4
    rotate_left
    · exact t4.elim
    rename_i n' ds' d' ho4
    split at t4
    rotate_left
    · exact t4.elim
    rename_i j hj
    have e14 := (e2.trans e3).trans e4
    obtain ⟨a', xs', hva', hd4, ha4, hs4, hu4, hd4', hz4⟩ := own3_low r4 (p1.mono e14) ho4
    cases hva'
    refine ⟨a, xs', k, j, rfl, dp_int p2, hu4, by rw [DpAll.length hd4']; exact hj, ?_⟩
    exact q.nx w4 σ _ env _ (e1.trans e14) (r4.put (o' := .lst (ds'.set j d')) ha4 hs4 ⟨_, rfl, DpAll.set p4 j hd4', by rw [List.length_set]; exact hz4⟩) ((en.mono e1).mono e14) t4
end
end L3

namespace L3
open PySem PySem.Spec PyProof.Rows L2
/-! ### <= of data, min of a list of data -/
def rLeD3 : R3 := fun x y S Q => match x, y with
  | .p (.int i), .p (.int j) => Q (.p (.bool (decide (i ≤ j)))) S
  | .p d, .p e => LtOk d e ∧ Q (.p (.bool (!PySem.W.dataLt e d))) S
  | _, _ => False
theorem op_leD {X : Cx} (hu : X.A.units + 64 < cLine) : OpR X (compareOp .LtE) (fun x y H Q => ∃ d e, Dp X.K H x d ∧ Dp X.K H y e ∧ LtOk d e ∧ Q (.bl (!PySem.W.dataLt e d)) H) := by
  intro pins s σ H x y v u Q I rx ry h
  obtain ⟨d, e, hd, he, ⟨h1, h2, h3⟩, q⟩ := h
  obtain ⟨as, r1⟩ := Dp.reads I d x v hd rx
  obtain ⟨bs, r2⟩ := Dp.reads I e y u he ry
  exact PySem.W.rcLe_alike d e X.A s v u as bs r1 r2 h1 h2 (by omega) X.prog X.w X.xe _ ⟨.bl _, H, I, rfl, q⟩
theorem oq_leD {X : Cx} (hu : X.A.units + 64 < cLine) : OQ X (compareOp .LtE) rLeD3 := opq (op_le.or (op_leD hu)) fun w S d e x y H Q R r0 p1 p2 t q => by
  unfold rLeD3 at t
  split at t
  · exact .inl ⟨_, _, dp_int p1, dp_int p2, q.bl r0 t⟩
  · exact .inr ⟨_, _, dp_mono r0.sub _ _ p1, dp_mono r0.sub _ _ p2, t.1, q.bl r0 t.2⟩
  · exact t.elim
def MinOk (ds : List PyData) : Prop := PySem.W.AlikeAll ds ∧ PyData.depthAll ds ≤ 60
open PySem.W in
theorem min_list_ix {prog : Program} {w : World} {A : Around} {E : Value → Shared → Prop} {s : Shared} {l : Addr} {vs : Array Value} {x : PyData} {xs : List PyData} {as : List Addr} {Q : Value → Shared → Prop} (hh : A.handled = none) (hl : s.heap.IsList l vs) (hr : ReadsAll s.heap vs.toList (x :: xs) as) (ha : AlikeAll (x :: xs)) (hu : A.units + 1 + PyData.depthAll (x :: xs) < cLine)
    (h : ∀ (i : Nat) v h' tk, i < xs.length + 1 → vs[i]? = some v → (x :: xs).getD i .none = minD x xs → (∀ b o, s.heap.get? b = some o → h'.get? b = some o) → Q v { s with heap := h', toks := tk }) :
    wpAny (model prog w) A (call (.builtin "min") [.ref l]) Q E s := by
  have hn : vs.size = xs.length + 1 := readsAll_len hr
  refine call_min_walkH (iter_listW (A := A.in1) hh hl fun s₂ e W st hfp hw hk => ?_)
  refine ⟨_, _, _, _, _, _, _, s.heap, _, rfl, W, st, hfp, by omega, hw, hk, cmpIn_lt (A := A.in1) hr ha (by show A.units + 1 + _ < _; exact hu), fun v s' hP m => ?_⟩
  obtain ⟨h', tk, rfl, hk'⟩ := moved_old e rfl m
  have e1 : vs.size - 1 = xs.length := by omega
  have e2 := argBest_fold dataLt PyData.none x xs xs.length (Nat.le_refl _)
  rw [List.take_length] at e2
  rw [e1] at hP
  exact h _ v h' tk (Nat.lt_succ_of_le e2.1) hP (by unfold minD; exact e2.2) hk'
open PySem.W in
def rMinDV (K : PySem.W.Frag) : List V → Hp → VK → Prop := fun vs H Q => ∃ (a : Addr) (xs : List V) (d : PyData) (ds : List PyData), vs = [V.ref a] ∧ SqL K H a xs ∧ DpAll K H xs (d :: ds) ∧ MinOk (d :: ds) ∧
  ∀ i y, i < ds.length + 1 → xs[i]? = some y → (d :: ds).getD i .none = minD d ds → Q y H
theorem dpAll_reads {X : Cx} {pins : List (Addr × Obj)} {σ : L2.St} {H : Hp} {s : Shared} (I : L2.Inv X pins σ H s) : ∀ {its : List Value} {xs : List V} {ds : List PyData}, Vals xs its → DpAll X.K H xs ds → ∃ as, ReadsAll s.heap its ds as
  | _, _, _, .nil, .nil => ⟨_, .nil⟩
  | _, _, _, .cons r rs, .cons p ps => by
    obtain ⟨as, h1⟩ := dpAll_reads I rs ps
    obtain ⟨bs, h2⟩ := Dp.reads I _ _ _ p r
    exact ⟨_, .cons h2 h1⟩
theorem vals_ix : ∀ {xs : List V} {vs : List Value}, Vals xs vs → ∀ (i : Nat) (v : Value), vs[i]? = some v → ∃ x, xs[i]? = some x ∧ RelV x v
  | _, _, .nil, i, v, h => by simp at h
  | _, _, .cons r rs, 0, v, h => ⟨_, rfl, by
      have e := Option.some.inj (show some _ = some v from h)
      subst e
      exact r⟩
  | _, _, .cons r rs, i + 1, v, h => by
    obtain ⟨x, h1, h2⟩ := vals_ix rs i v (by simpa using h)
    exact ⟨x, by simpa using h1, h2⟩
theorem dpAll_ix {K : PySem.W.Frag} {h : Hp} : ∀ {xs : List V} {ds : List PyData}, DpAll K h xs ds → ∀ (i : Nat) (x : V), xs[i]? = some x → i < ds.length ∧ Dp K h x (ds.getD i .none)
  | _, _, .nil, i, x, e => by simp at e
  | _, _, .cons p ps, 0, x, e => by
    have e := Option.some.inj (show some _ = some x from e)
    subst e
    exact ⟨Nat.zero_lt_succ _, p⟩
  | _, _, .cons p ps, i + 1, x, e => by
    obtain ⟨a, b⟩ := dpAll_ix ps i x (by simpa using e)
    exact ⟨Nat.succ_lt_succ a, by simpa using b⟩
open PySem.W in
theorem cr_minD {X : Cx} (hc : X.calm = true) (hu : X.A.units + 64 < cLine) : CallR X (.builtin "min") (rMinDV X.K) := by
  intro pins s σ H vs us Q I r h
  obtain ⟨a, xs, d, ds, rfl, hs, hd, ⟨hal, hdep⟩, q⟩ := h
  obtain ⟨its, rv, hl, _⟩ := I.list hs
  rw [Vals.ref1 r]
  obtain ⟨as, hr⟩ := dpAll_reads I rv hd
  refine min_list_ix (I.ok.hd hc) hl.isList hr hal (by omega) fun i v h' tk hi hv hm hk => ?_
  obtain ⟨y, hy, hrel⟩ := vals_ix rv i v (by simpa using hv)
  exact ⟨y, H, I.kept hk, hrel, q i y hi hy hm⟩
def rMinD3 : C3 := fun ds S Q => match ds with
  | [d] => (match lst3 S d with
    | some (x :: xs) => MinOk (x :: xs) ∧ Q (.p (PySem.W.minD x xs)) S
    | _ => False)
  | _ => False
theorem cq_minD {X : Cx} (hc : X.calm = true) (hu : X.A.units + 64 < cLine) : CQ X (.builtin "min") rMinD3 := callq (cr_minD hc hu) fun w S ds xs H Q R r0 p1 t q => by
  unfold rMinD3 at t
  split at t
  · obtain ⟨v, rfl, p⟩ := rds1 p1
    split at t
    · rename_i y ys h1
      obtain ⟨a, vs, rfl, hq, hd, hz⟩ := lst3_low r0 p h1
      refine ⟨a, vs, y, ys, rfl, hq, dpAll_mono r0.sub _ _ hd, t.1, fun i x hi hx hm => ?_⟩
      obtain ⟨_, hp⟩ := dpAll_ix hd i x hx
      rw [hm] at hp
      exact q.old r0 (d := .p _) hp t.2
    · exact t.elim
  · exact t.elim
end L3

namespace L3
open PySem PySem.Spec PyProof.Rows L2
/-! ### own dicts whose keys are tuples of ints and texts -/
def keysT : List PyData → Option (List Key)
  | [] => some []
  | d :: ds => match key3 d, keysT ds with
    | some k, some ks => some (k :: ks)
    | _, _ => none
/-- no empty tuple and no tuple of ints and texts stands behind the top -/
def NoTK (K : PySem.W.Frag) : Prop := ∀ (a : Addr) (o : Obj) (its : Array Value) (n : Nat) (ks : List Key), (ks = [] ∨ ∃ (i : Int) (r : List Key), ks = .inl i :: r) → K.lookup a = some o → o.cls = .type "tuple" → o.data = .seq its n → ¬ Vals (ks.map kV) its.toList
def tupOk (o : Obj) : Bool := match o.data with
  | .seq its _ => (match its.toList with
    | [] => false
    | .int _ _ :: _ => false
    | _ => true)
  | _ => true
theorem NoTK.of {K : PySem.W.Frag} (h : ∀ a o, K.lookup a = some o → tupOk o = true) : NoTK K := by
  intro a o its n ks hks hl hc hd hv
  have h1 := h a o hl
  unfold tupOk at h1
  rw [hd] at h1
  simp only at h1
  generalize its.toList = l at h1 hv
  rcases hks with rfl | ⟨i, r, rfl⟩
  · cases hv
    simp at h1
  · cases hv with
    | cons r rs =>
      obtain ⟨t, rfl⟩ := (show RelV (.int i) _ from r)
      simp at h1
theorem lookup_mem {a : Addr} {o : Obj} : ∀ {K : PySem.W.Frag}, K.lookup a = some o → (a, o) ∈ K
  | [], h => nomatch h
  | (b, x) :: K, h => by
    rw [List.lookup_cons] at h
    split at h
    · rename_i e
      cases h
      have : a = b := by simpa using e
      rw [this]
      exact List.mem_cons_self
    · exact List.mem_cons_of_mem _ (lookup_mem h)
/-- what stands behind the top, without such tuples -/
abbrev filtK (K : PySem.W.Frag) : PySem.W.Frag := K.filter fun p => tupOk p.2
theorem NoTK.filt (K : PySem.W.Frag) : NoTK (filtK K) := NoTK.of fun a o hl => (List.mem_filter.mp (lookup_mem hl)).2
/-- by rising addresses -/
def ascB : PySem.W.Frag → Bool
  | p :: q :: r => Nat.blt p.1 q.1 && ascB (q :: r)
  | _ => true
theorem asc_tail {p : Addr × Obj} {r : PySem.W.Frag} (h : ascB (p :: r) = true) : ascB r = true := by
  cases r with
  | nil => rfl
  | cons q r => unfold ascB at h; exact (Bool.and_eq_true_iff.mp h).2
theorem asc_lt : ∀ {r : PySem.W.Frag} {p : Addr × Obj}, ascB (p :: r) = true → ∀ q ∈ r, p.1 < q.1 := by
  intro r
  induction r with
  | nil => intro p _ x hx; cases hx
  | cons q r ih =>
    intro p h x hx
    have h2 := asc_tail h
    unfold ascB at h
    have h1 : p.1 < q.1 := by
      have := (Bool.and_eq_true_iff.mp h).1
      exact Nat.blt_eq.mp this
    rcases List.mem_cons.mp hx with rfl | hx
    · exact h1
    · exact Nat.lt_trans h1 (ih h2 x hx)
theorem lookup_filt {a : Addr} {o : Obj} : ∀ {K : PySem.W.Frag}, ascB K = true → (filtK K).lookup a = some o → K.lookup a = some o
  | [], _, e => nomatch e
  | (b, x) :: K, h, e => by
    unfold filtK at e
    rw [List.filter_cons] at e
    split at e
    · rw [List.lookup_cons] at e ⊢
      split at e
      · exact e
      · exact lookup_filt (asc_tail h) e
    · have ih := lookup_filt (asc_tail h) e
      have := asc_lt h _ (lookup_mem ih)
      rw [List.lookup_cons]
      have hne : (a == b) = false := by
        simp only [beq_eq_false_iff_ne, ne_eq]
        intro z
        rw [z] at this
        exact Nat.lt_irrefl _ this
      rw [hne]
      exact ih
theorem in_filt {K : PySem.W.Frag} {h : Heap} (hs : ascB K = true) (X : K.In h) : (filtK K).In h := fun a o e => X a o (lookup_filt hs e)
/-- walk_of over the part without such tuples -/
theorem walk_ofE {l : PySem.W.OpenLaw} {n k : Nat} {q : Program} {loose : List Str} {XP : (Str → Option Value) → Heap → Prop} {YP : World → Heap → Prop} {d : DefRec} {K : Params → PySem.W.Frag} {CX : World → L2.CXT} {sp : World → L2.Sp} {x : Str}
    (hn : l.most = some n) (hn2 : n ≤ sizeLine) (hdf : d.params.defaults = []) (hr : L2.Room k callerA)
    (hY : ∀ (w : World) (h : Heap), YP w h → (K w.params).In h) (hs : ∀ w : World, ascB (K w.params) = true)
    (F : ∀ (w : World) (mg : Str → Option Value) (fa : Addr) (h : Heap), (filtK (K w.params)).In h → h.Ns mainGlobals mg → mg d.name = some (.ref fa) →
      ∃ fd : FuncData, (∀ (s : Shared) (u : Value), BindsTo s fd ⟨[u], []⟩ [(x, u)]) ∧
        ∀ base : Heap, (filtK (K w.params)).In base → base.Ns mainGlobals mg → L2.FnOk l.prog w (filtK (K w.params)) mg base (CX w) k fa fd [x] (sp w))
    (hsp : ∀ (w : World) (H : Hp) (a : Addr) (ns : List Int), ns.length ≤ n → L2.Only H → SqL (filtK (K w.params)) H a (ns.map V.int) → sp w [.ref a] H (fun v _ => v = .bl true) fun _ _ _ => False)
    (hCX : ∀ (w : World) (H : Hp) (s : Shared) (e : Value) (s' : Shared), CX w [] H s (fun _ _ _ => False) e s' → False) :
    PySem.W.WalkO q loose XP YP l.row.toRowW d [] (fun f vs => PySem.call f vs) :=
  L2.walk_of (K := fun p => filtK (K p)) hn hn2 hdf hr (fun w h Y => in_filt (hs w) (hY w h Y)) F hsp hCX
theorem keysT_low {K : PySem.W.Frag} {h : Hp} : ∀ {vs : List V} {ds : List PyData} {ks : List Key}, DpAll K h vs ds → keysT ds = some ks → vs = ks.map kV
  | _, _, _, .nil, e => by cases e; rfl
  | _, _, _, .cons (v := v) (e := d) p ps, e => by
    unfold keysT at e
    split at e
    · rename_i k ks h1 h2
      cases e
      rw [List.map_cons, ← keysT_low ps h2]
      congr 1
      cases d <;> simp only [key3] at h1 <;> first | cases h1 | skip
      · cases p; rfl
      · cases p; rfl
    · cases e
/-- the key that a value stands for -/
def keyT : D → Option (List Key)
  | .p (.tuple []) => some []
  | .p (.tuple (.int i :: ds)) => keysT (.int i :: ds)
  | _ => none
theorem keyT_low {K : PySem.W.Frag} {w : W3} {H : Hp} {S : S3} {v : V} {d : D} {ks : List Key} (hK : NoTK K) (r : Rel3 K w H S) (p : RepD K w v d) (h : keyT d = some ks) : ∃ b, v = .ref b ∧ H b = some (.tup (ks.map kV)) := by
  have go : ∀ ds : List PyData, Dp K w.h v (.tuple ds) → keysT ds = some ks → (ks = [] ∨ ∃ (i : Int) (r : List Key), ks = .inl i :: r) → ∃ b, v = .ref b ∧ H b = some (.tup (ks.map kV)) := fun ds p' h hk => by
    cases p' with
    | @tup b xs _ hs ha =>
      have e := keysT_low ha h
      subst e
      refine ⟨b, rfl, ?_⟩
      rcases hs with (hs | ⟨o, hs⟩) | ⟨o, its, n, hk', hc, hd, _, hv⟩
      · exact r.sub _ _ hs
      · exact (r.sz _ _ hs).elim
      · exact (hK b o its n ks hk hk' hc hd hv).elim
  unfold keyT at h
  split at h
  · cases h
    exact go [] p rfl (.inl rfl)
  · rename_i i ds
    refine go _ p h (.inr ?_)
    unfold keysT at h
    split at h
    · rename_i h1 _
      cases h1
      cases h
      exact ⟨_, _, rfl⟩
    · cases h
  · cases h
def valE {κ β : Type} [DecidableEq κ] (kvs : List (κ × β)) (k : κ) : Option β := (kvs.find? fun kv => decide (kv.1 = k)).map (·.2)
def putE {κ β : Type} [DecidableEq κ] (kvs : List (κ × β)) (k : κ) (v : β) : List (κ × β) :=
  if (kvs.any fun kv => decide (kv.1 = k)) = true then kvs.map (fun kv => if kv.1 = k then (kv.1, v) else kv) else kvs ++ [(k, v)]
def dic3 (S : S3) : D → Option (Nat × List (List Key × PyData))
  | .loc n => match S[n]? with
    | some (some (.dic kvs)) => some (n, kvs)
    | _ => none
  | _ => none
abbrev KtR (K : PySem.W.Frag) (h : Hp) : List Key × V → List Key × PyData → Prop := fun p q => p.1 = q.1 ∧ Dp K h p.2 q.2
theorem dic3_low {K : PySem.W.Frag} {w : W3} {H : Hp} {S : S3} {v : V} {d : D} {n : Nat} {kvs : List (List Key × PyData)} (r : Rel3 K w H S) (p : RepD K w v d) (h : dic3 S d = some (n, kvs)) :
    ∃ a kxs, v = .ref a ∧ d = .loc n ∧ w.al[n]? = some a ∧ S[n]? = some (some (.dic kvs)) ∧ H a = some (.dT kxs) ∧ Paired (KtR K w.h) kxs kvs := by
  unfold dic3 at h
  split at h
  · split at h
    · rename_i es hs
      cases h
      obtain ⟨a, ha, rfl⟩ := p
      obtain ⟨_, u, hu, kxs, rfl, hp⟩ := r.live n a _ ha hs
      exact ⟨a, kxs, rfl, rfl, ha, hs, hu, hp⟩
    · cases h
  · cases h
theorem pt_val {K : PySem.W.Frag} {h : Hp} {k : List Key} : ∀ {kxs : List (List Key × V)} {kvs : List (List Key × PyData)}, Paired (KtR K h) kxs kvs → (valE kvs k = none ∧ valV kxs k = none) ∨ ∃ d v, valE kvs k = some d ∧ valV kxs k = some v ∧ Dp K h v d
  | _, _, .nil => .inl ⟨rfl, rfl⟩
  | _, _, .cons (a := p) (b := q) (l₁ := xs) (l₂ := ys) r rs => by
    by_cases e : q.1 = k
    · refine .inr ⟨q.2, p.2, ?_, ?_, r.2⟩
      · simp [valE, List.find?_cons, e]
      · simp [valV, List.find?_cons, r.1.trans e]
    · have e' : ¬ p.1 = k := fun z => e (r.1 ▸ z)
      have a : valE (q :: ys) k = valE ys k := by simp only [valE, List.find?_cons, e, decide_false]
      have b : valV (p :: xs) k = valV xs k := by simp only [valV, List.find?_cons, e', decide_false]
      rw [a, b]
      exact pt_val rs
theorem pt_any {K : PySem.W.Frag} {h : Hp} {k : List Key} : ∀ {kxs : List (List Key × V)} {kvs : List (List Key × PyData)}, Paired (KtR K h) kxs kvs → (kxs.any fun kv => decide (kv.1 = k)) = kvs.any fun kv => decide (kv.1 = k)
  | _, _, .nil => rfl
  | _, _, .cons r rs => by rw [List.any_cons, List.any_cons, r.1, pt_any rs]
theorem pt_map {K : PySem.W.Frag} {h : Hp} {k : List Key} {v : V} {d : PyData} (hd : Dp K h v d) : ∀ {kxs : List (List Key × V)} {kvs : List (List Key × PyData)}, Paired (KtR K h) kxs kvs → Paired (KtR K h) (kxs.map fun kv => if kv.1 = k then (kv.1, v) else kv) (kvs.map fun kv => if kv.1 = k then (kv.1, d) else kv)
  | _, _, .nil => .nil
  | _, _, .cons (a := p) (b := q) r rs => by
    rw [List.map_cons, List.map_cons]
    refine .cons ?_ (pt_map hd rs)
    by_cases e : q.1 = k
    · rw [if_pos e, if_pos (r.1.trans e)]
      exact ⟨r.1, hd⟩
    · rw [if_neg e, if_neg fun z => e (r.1 ▸ z)]
      exact r
theorem pt_app {K : PySem.W.Frag} {h : Hp} : ∀ {kxs lxs : List (List Key × V)} {kvs lvs : List (List Key × PyData)}, Paired (KtR K h) kxs kvs → Paired (KtR K h) lxs lvs → Paired (KtR K h) (kxs ++ lxs) (kvs ++ lvs)
  | _, _, _, _, .nil, s => s
  | _, _, _, _, .cons r rs, s => .cons r (pt_app rs s)
theorem pt_put {K : PySem.W.Frag} {h : Hp} {k : List Key} {v : V} {d : PyData} {kxs : List (List Key × V)} {kvs : List (List Key × PyData)} (p : Paired (KtR K h) kxs kvs) (hd : Dp K h v d) : Paired (KtR K h) (putK kxs k v) (putE kvs k d) := by
  unfold putK putE
  rw [pt_any p]
  split
  · exact pt_map hd p
  · exact pt_app p (.cons ⟨rfl, hd⟩ .nil)
theorem pt_len {K : PySem.W.Frag} {h : Hp} : ∀ {kxs : List (List Key × V)} {kvs : List (List Key × PyData)}, Paired (KtR K h) kxs kvs → kxs.length = kvs.length
  | _, _, .nil => rfl
  | _, _, .cons _ rs => congrArg (· + 1) (pt_len rs)
/-- {} of tuple keys -/
def tTNew3 : TE3 := fun _ S Q => Q (.loc S.length) (S ++ [some (.dic [])])
/-- d[k] -/
def tTGet3 (to ti : TE3) : TE3 := fun env S Q => to env S fun o S1 => ti env S1 fun i S2 => match dic3 S2 o with
  | some (_, kvs) => (match keyT i with
    | some k => (match valE kvs k with
      | some v => Q (.p v) S2
      | none => False)
    | none => False)
  | _ => False
/-- d[k] = e -/
def tTPut3 (te to ti : TE3) : TS3 := fun D env S => te env S fun v S1 => to env S1 fun o S2 => ti env S2 fun i S3 => match dic3 S3 o, v with
  | some (n, kvs), .p x => (match keyT i with
    | some k => kvs.length < 16777216 ∧ D.nx env (S3.set n (some (.dic (putE kvs k x))))
    | none => False)
  | _, _ => False
/-- k in d, k not in d -/
def tTIn3 (neg : Bool) (ti to : TE3) : TE3 := fun env S Q => ti env S fun i S1 => to env S1 fun o S2 => match dic3 S2 o with
  | some (_, kvs) => (match keyT i with
    | some k => Q (.p (.bool (if neg then !(valE kvs k).isSome else (valE kvs k).isSome))) S2
    | none => False)
  | _ => False
section
variable {X : Cx} {o i e : Expr} {to ti te : TE3} {pos pos' : Pos}
theorem qe_tnew : QE X (.Dict [] [] pos) tTNew3 := L2.PE.imp pe_dnewT fun σ H R ⟨w, env, S, Q, r0, en, t, q⟩ => fun p hn => by
  obtain ⟨r2, e2⟩ := r0.push (u := .dT []) (o := .dic []) hn ⟨[], rfl, .nil⟩
  refine q _ (.ref p) (.loc S.length) _ _ e2 r2 ⟨p, ?_, rfl⟩ t
  show (w.al ++ [p])[S.length]? = some p
  rw [← r0.len, List.getElem?_append_right (Nat.le_refl _)]
  simp
theorem qe_tget (hK : NoTK X.K) (hu : X.A.units + 64 < cLine) (ho : QE X o to) (hi : QE X i ti) (hs : NoSl i) : QE X (.Subscript o i pos) (tTGet3 to ti) := L2.PE.imp (pe_dget (by omega) ho hi hs) fun σ H R ⟨w, env, S, Q, r0, en, t, q⟩ => by
  refine ⟨w, env, S, _, r0, en, t, fun w1 v d H1 S1 e1 r1 p1 t1 => ?_⟩
  refine ⟨w1, env, S1, _, r1, en.mono e1, t1, fun w2 u c H2 S2 e2 r2 p2 t2 => ?_⟩
  split at t2
  · rename_i n kvs ho'
    split at t2
    · rename_i k hk
      split at t2
      · rename_i x hx
        obtain ⟨a, kxs, rfl, rfl, ha, hs', hH, hp⟩ := dic3_low r2 (p1.mono e2) ho'
        obtain ⟨b, rfl, hb⟩ := keyT_low hK r2 p2 hk
        rcases pt_val (k := k) hp with ⟨h1, _⟩ | ⟨d', v', h1, h2, h3⟩
        · rw [hx] at h1; cases h1
        · rw [hx] at h1
          cases h1
          refine ⟨a, v', rfl, ?_, (q.mono (e1.trans e2)).old (d := .p x) r2 h3 t2⟩
          rw [← h2]
          exact DGet.t hH hb
      · exact t2.elim
    · exact t2.elim
  · exact t2.elim
theorem qs_tput (hK : NoTK X.K) (hu : X.A.units + 64 < cLine) (he : QE X e te) (ho : QE X o to) (hi : QE X i ti) (hs : swapsWith e (some (.Subscript o i pos')) pos.line X.env = pure false := by rfl) : QS X (.Assign [.Subscript o i pos'] e pos) (tTPut3 te to ti) :=
  L2.PS.imp (ps_dput (by omega) ho hi he hs) fun D σ H ⟨w, env, S, D3, r0, en, t, q⟩ => by
    have hz : sizeLine = 16777216 := sizeLine_eq
    refine ⟨w, env, S, _, r0, en, t, fun w1 v d H1 S1 e1 r1 p1 t1 => ?_⟩
    refine ⟨w1, env, S1, _, r1, en.mono e1, t1, fun w2 u c H2 S2 e2 r2 p2 t2 => ?_⟩
    refine ⟨w2, env, S2, _, r2, (en.mono e1).mono e2, t2, fun w3 z b H3 S3 e3 r3 p3 t3 => ?_⟩
    split at t3
    · rename_i n kvs x ho'
      split at t3
      · rename_i k hk
        obtain ⟨a, kxs, rfl, rfl, ha, hs', hH, hp⟩ := dic3_low r3 (p2.mono e3) ho'
        obtain ⟨b', rfl, hb⟩ := keyT_low hK r3 p3 hk
        have hl := pt_len hp
        have p1' : RepD X.K w3 v (.p x) := (p1.mono e2).mono e3
        obtain ⟨t31, t3⟩ := t3
        refine ⟨a, _, rfl, DPut.t hH hb (by omega), ?_⟩
        exact q.nx w3 σ _ env _ ((e1.trans e2).trans e3) (r3.put (o' := .dic (putE kvs k x)) ha hs' ⟨_, rfl, pt_put hp p1'⟩) (((en.mono e1).mono e2).mono e3) t3
      · exact t3.elim
    · exact t3.elim
theorem tin_low {K : PySem.W.Frag} {neg : Bool} {σ : L2.St} {H : Hp} {R : VK} (hK : NoTK K) (h : low K (tTIn3 neg ti to) σ H R) : low K ti σ H fun y H1 => low K to σ H1 fun x H2 => ∃ a o, x = .ref a ∧ DGet H2 a y o ∧ R (.bl (if neg then !o.isSome else o.isSome)) H2 := by
  obtain ⟨w, env, S, Q, r0, en, t, q⟩ := h
  refine ⟨w, env, S, _, r0, en, t, fun w1 v d H1 S1 e1 r1 p1 t1 => ?_⟩
  refine ⟨w1, env, S1, _, r1, en.mono e1, t1, fun w2 u c H2 S2 e2 r2 p2 t2 => ?_⟩
  split at t2
  · rename_i n kvs ho'
    split at t2
    · rename_i k hk
      obtain ⟨a, kxs, rfl, rfl, ha, hs', hH, hp⟩ := dic3_low r2 p2 ho'
      obtain ⟨b, rfl, hb⟩ := keyT_low hK r2 (p1.mono e2) hk
      refine ⟨a, _, rfl, DGet.t hH hb, ?_⟩
      have e : (valV kxs k).isSome = (valE kvs k).isSome := by
        rcases pt_val (k := k) hp with ⟨h1, h2⟩ | ⟨d', v', h1, h2, _⟩ <;> rw [h1, h2] <;> rfl
      rw [e]
      exact (q.mono (e1.trans e2)).bl r2 t2
    · exact t2.elim
  · exact t2.elim
theorem qe_tin (hK : NoTK X.K) (hu : X.A.units + 64 < cLine) (hi : QE X i ti) (ho : QE X o to) (h1 : behindInMarks .In o = false := by rfl) : QE X (.Compare i [.In] [o] pos) (tTIn3 false ti to) :=
  L2.PE.imp (pe_cmp (pc_din (by omega) hi ho) h1) fun σ H R h => tin_low hK h
theorem qe_tnotin (hK : NoTK X.K) (hu : X.A.units + 64 < cLine) (hi : QE X i ti) (ho : QE X o to) (h1 : behindInMarks .NotIn o = false := by rfl) : QE X (.Compare i [.NotIn] [o] pos) (tTIn3 true ti to) :=
  L2.PE.imp (pe_cmp (pc_dnotin (by omega) hi ho) h1) fun σ H R h => tin_low hK h
theorem qt_tin (hK : NoTK X.K) (hu : X.A.units + 64 < cLine) (hi : QE X i ti) (ho : QE X o to) (h1 : behindInMarks .In o = false := by rfl) : QT X (.Compare i [.In] [o] pos) (tTest3 (tTIn3 false ti to)) :=
  L2.PT.imp (pt_cmp (pc_din (by omega) hi ho) h1) fun σ H R h => test_low (t := tTIn3 false ti to) (t2 := fun σ H R' => low X.K (tTIn3 false ti to) σ H R') (fun R' q => q) h |> fun z => tin_low hK z
theorem qt_tnotin (hK : NoTK X.K) (hu : X.A.units + 64 < cLine) (hi : QE X i ti) (ho : QE X o to) (h1 : behindInMarks .NotIn o = false := by rfl) : QT X (.Compare i [.NotIn] [o] pos) (tTest3 (tTIn3 true ti to)) :=
  L2.PT.imp (pt_cmp (pc_dnotin (by omega) hi ho) h1) fun σ H R h => test_low (t := tTIn3 true ti to) (t2 := fun σ H R' => low X.K (tTIn3 true ti to) σ H R') (fun R' q => q) h |> fun z => tin_low hK z
end
end L3

namespace L3
open PySem PySem.Spec PyProof.Rows L2
/-! ### xs.insert(i, x); xs.index(k), of ints -/
theorem dpInts {K : PySem.W.Frag} {h : Hp} : ∀ {ns : List Int} {vs : List V}, DpAll K h vs (ns.map PyData.int) → vs = ns.map V.int
  | [], _, p => by cases p; rfl
  | n :: ns, _, p => by
    cases p with
    | cons p ps =>
      cases p
      rw [dpInts ps]
      rfl
def tIns3 (to ti te : TE3) : TE3 := fun env S Q => to env S fun o S1 => match own3 S1 o with
  | some _ => ti env S1 fun i S2 => te env S2 fun v S3 => match own3 S3 o, i, v with
    | some (n, ds), .p (.int k), .p d => (ds.length < 16777216 ∧ 0 ≤ k ∧ k < 9223372036854775808) ∧ Q (.p .none) (S3.set n (some (.lst (ds.take k.toNat ++ [d] ++ ds.drop k.toNat))))
    | _, _, _ => False
  | none => False
def tIdxL3 (to te : TE3) : TE3 := fun env S Q => to env S fun o S1 => ∃ ds, o = .p (.list ds) ∧ te env S1 fun v S2 => match v with
  | .p (.int k) => ∃ ns : List Int, ds = ns.map PyData.int ∧ k ∈ ns ∧ Q (.p (.int (ns.idxOf k : Nat))) S2
  | _ => False
section
variable {X : Cx} {o e e2 : Expr} {to te te2 : TE3} {apos cpos : Pos}
theorem qe_insert (ho : QE X o to) (he : QE X e te) (he2 : QE X e2 te2) (hbase : attributeBase o "insert" X.env (eval o X.env) = eval o X.env := by rfl)
    (hfew : ((backTo cpos (starEach [e, e2] X.env)).all (fun x => !x.1) && (backToKw cpos (keywordEach [] X.env)).all (fun x => x.1.isSome)
      && decide (([e, e2] : List Expr).length + ([] : List Keyword).length + (if ([] : List Keyword).isEmpty then 0 else 1) < 30)) = true := by rfl)
    (hline : (apos.endLine == cpos.line) = true := by rfl) (hs : starEach [e, e2] X.env = (false, eval e X.env) :: starEach [e2] X.env := by rfl) (hs2 : starEach [e2] X.env = (false, eval e2 X.env) :: starEach [] X.env := by rfl) (hplain : (backTo cpos (starEach [e2] X.env)).any (·.1) = false := by rfl) :
    QE X (.Call (.Attribute o "insert" apos) [e, e2] [] cpos) (tIns3 to te te2) :=
  (pe_bm PySem.F.plainAttrs_list PySem.F.slot_list_insert PySem.F.type_list_insert mt_insert ho (pa_cons he (pa_cons he2 pa_nil hs2) hs) hbase hfew hline hs hplain).imp fun σ H R ⟨w, env, S, Q, r0, en, t, q⟩ => by
    have hz : sizeLine = 16777216 := sizeLine_eq
    refine ⟨w, env, S, _, r0, en, t, fun w1 v d H1 S1 e1 r1 p1 t1 => ?_⟩
    split at t1
    · rename_i nd ho1
      obtain ⟨n0, ds0⟩ := nd
      obtain ⟨a0, xs0, rfl, hd0, _, _, hu0, _, _⟩ := own3_low r1 p1 ho1
      refine ⟨.inl ⟨rfl, xs0, .inl (.inl hu0)⟩, ?_⟩
      refine ⟨w1, env, S1, _, r1, en.mono e1, t1, fun w2 u c H2 S2 e2 r2 p2 t2 => ?_⟩
      refine ⟨w2, env, S2, _, r2, (en.mono e1).mono e2, t2, fun w3 z b H3 S3 e3 r3 p3 t3 => ?_⟩
      split at t3
      · rename_i n ds k d' ho3
        obtain ⟨a, xs, hva, rfl, ha, hs, hu, hd, hzz⟩ := own3_low r3 ((p1.mono e2).mono e3) ho3
        cases hva
        have hl := DpAll.length hd
        have hu' := dp_int p2
        subst hu'
        refine ⟨_, xs, k, z, rfl, rfl, hu, by omega, t3.1.2.1, t3.1.2.2, ?_⟩
        exact q w3 .non (.p .none) _ _ ((e1.trans e2).trans e3) (r3.put (o' := .lst (ds.take k.toNat ++ [d'] ++ ds.drop k.toNat)) ha hs ⟨_, rfl, DpAll.append (DpAll.append (DpAll.take _ hd) (.cons p3 .nil)) (DpAll.drop _ hd), by
          rw [List.length_append, List.length_append, List.length_take, List.length_drop, List.length_singleton]
          omega⟩) rep_non t3.2
      · exact t3.elim
    · exact t1.elim
theorem mt_idxL : MtR X "list.index" (fun x xs H Q => ∃ (p : Addr) (ns : List Int) (k : Int), x = .ref p ∧ xs = [.int k] ∧ SqL X.K H p (ns.map V.int) ∧ k ∈ ns ∧ Q (.int (ns.idxOf k : Nat)) H) := by
  intro pins s σ H x xs v us Q I rx rs h
  obtain ⟨p, ns, k, rfl, rfl, hq, hk, q⟩ := h
  cases rx
  obtain ⟨u, rfl, t, rfl⟩ := vals1 rs
  obtain ⟨its, r, pl, hz⟩ := I.list hq
  exact PySem.SeqAt.list_index_ints (vs := its) pl.isList r.ints (by rw [List.length_map] at hz; exact hz) hk ⟨.int _, H, I.tok _, ⟨_, rfl⟩, q⟩
theorem qe_idxL (ho : QE X o to) (he : QE X e te) (hbase : attributeBase o "index" X.env (eval o X.env) = eval o X.env := by rfl)
    (hfew : ((backTo cpos (starEach [e] X.env)).all (fun x => !x.1) && (backToKw cpos (keywordEach [] X.env)).all (fun x => x.1.isSome)
      && decide (([e] : List Expr).length + ([] : List Keyword).length + (if ([] : List Keyword).isEmpty then 0 else 1) < 30)) = true := by rfl)
    (hline : (apos.endLine == cpos.line) = true := by rfl) (hs : starEach [e] X.env = (false, eval e X.env) :: starEach [] X.env := by rfl) (hplain : (backTo cpos (starEach [] X.env)).any (·.1) = false := by rfl) :
    QE X (.Call (.Attribute o "index" apos) [e] [] cpos) (tIdxL3 to te) :=
  (pe_bm PySem.F.plainAttrs_list PySem.F.slot_list_index PySem.F.type_list_index mt_idxL ho (pa_cons he pa_nil hs) hbase hfew hline hs hplain).imp fun σ H R ⟨w, env, S, Q, r0, en, t, q⟩ => by
    refine ⟨w, env, S, _, r0, en, t, fun w1 v d H1 S1 e1 r1 p1 t1 => ?_⟩
    obtain ⟨ds, rfl, t1⟩ := t1
    have p1' : Dp X.K w1.h v (.list ds) := p1
    cases p1' with
    | @lst a xs _ hs0 ha0 =>
    refine ⟨.inl ⟨rfl, xs, L2.Same.seq r1.sub hs0⟩, ?_⟩
    refine ⟨w1, env, S1, _, r1, en.mono e1, t1, fun w2 u c H2 S2 e2 r2 p2 t2 => ?_⟩
    split at t2
    · rename_i k
      obtain ⟨ns, rfl, hk, t2⟩ := t2
      have hx := dpInts ha0
      subst hx
      have hu' := dp_int p2
      subst hu'
      exact ⟨a, ns, k, rfl, rfl, L2.Same.seq r2.sub (L2.Same.seq e2.h hs0), hk, (q.mono (e1.trans e2)).int r2 t2⟩
    · exact t2.elim
end
end L3

namespace L3
open PySem PySem.Spec PyProof.Rows L2
/-! ### own lists of own lists -/
abbrev LrR (K : PySem.W.Frag) (w : W3) (n : Nat) : V → D → Prop := fun v d => RepD K w v d ∧ under n d
def lls3 (S : S3) : D → Option (Nat × List D)
  | .loc n => match S[n]? with
    | some (some (.lls ds)) => some (n, ds)
    | _ => none
  | _ => none
theorem lls3_low {K : PySem.W.Frag} {w : W3} {H : Hp} {S : S3} {v : V} {d : D} {n : Nat} {ds : List D} (r : Rel3 K w H S) (p : RepD K w v d) (h : lls3 S d = some (n, ds)) :
    ∃ a xs, v = .ref a ∧ d = .loc n ∧ w.al[n]? = some a ∧ S[n]? = some (some (.lls ds)) ∧ H a = some (.lst xs) ∧ Paired (LrR K w n) xs ds ∧ ds.length ≤ sizeLine := by
  unfold lls3 at h
  split at h
  · split at h
    · rename_i es hs
      cases h
      obtain ⟨a, ha, rfl⟩ := p
      obtain ⟨_, u, hu, xs, rfl, hp, hz⟩ := r.live n a _ ha hs
      exact ⟨a, xs, rfl, rfl, ha, hs, hu, hp, hz⟩
    · cases h
  · cases h
theorem lp_mono {K : PySem.W.Frag} {w w' : W3} {n n' : Nat} (e : Ex0 w w') (hn : n ≤ n') {xs : List V} {ds : List D} (h : Paired (LrR K w n) xs ds) : Paired (LrR K w' n') xs ds := Paired.mapP h fun v d z => ⟨z.1.mono0 e, by
  cases d with
  | p d => trivial
  | exc c => trivial
  | loc m => exact Nat.lt_of_lt_of_le z.2 hn⟩
theorem lp_snoc {K : PySem.W.Frag} {w : W3} {n : Nat} {v : V} {d : D} (hd : LrR K w n v d) : ∀ {xs : List V} {ds : List D}, Paired (LrR K w n) xs ds → Paired (LrR K w n) (xs ++ [v]) (ds ++ [d])
  | _, _, .nil => .cons hd .nil
  | _, _, .cons r rs => .cons r (lp_snoc hd rs)
theorem lp_len {K : PySem.W.Frag} {w : W3} {n : Nat} : ∀ {xs : List V} {ds : List D}, Paired (LrR K w n) xs ds → xs.length = ds.length
  | _, _, .nil => rfl
  | _, _, .cons _ rs => congrArg (· + 1) (lp_len rs)
/-- name = [e for ..], each e an own list -/
def tSetLL3 (y : Nat) (ti : TI3) (T : Tg) (tt : TT3) (te : TE3) (vs : List Nat) : TS3 := fun D env S => ti env S fun xs ok S1 => ∃ I : Nat → List L3.D → S3 → Prop, I 0 [] S1 ∧ (∀ i acc s, I i acc s → ok s) ∧
  (∀ i x acc s, xs[i]? = some x → I i acc s → match bind3 T x (wipe3 env vs) with
    | some e2 => tt e2 s fun b s1 => if b = true then te e2 s1 fun y s2 => s.length ≤ s2.length ∧ under s2.length y ∧ I (i + 1) (acc ++ [y]) s2 else s.length ≤ s1.length ∧ I (i + 1) acc s1
    | none => False) ∧ ∀ acc s, I xs.length acc s → D.nx (set3 env y (.loc s.length)) (s ++ [some (.lls acc)])
theorem ll_low {K : PySem.W.Frag} {ti : TI3} {T : Tg} {tt : TT3} {te : TE3} {vs : List Nat} {σ : L2.St} {H : Hp} {R : VK} {y : Nat} {D2 : Ends} (hv : ∀ i ∈ T.slots, i ∈ vs) (h : ∃ w env S D3, Rel3 K w H S ∧ EnvR K w σ env ∧ tSetLL3 y ti T tt te vs D3 env S ∧ EndS K w D3 D2) : tLc (lowI K ti) (g2 K T) (lowT K tt) (low K te) vs σ H fun x H1 => gName y x σ H1 D2.nx := by
  obtain ⟨w, env, S, D3, r0, en, t, q⟩ := h
  refine ⟨w, env, S, _, r0, en, t, fun w1 J H1 S1 xs ok e1 r1 hJ hz t1 => fun D hD => ?_⟩
  obtain ⟨I, h0, hok, hs, hd⟩ := t1
  refine ⟨fun i m H => i ≤ xs.length ∧ m = xs.length - i ∧ ∃ al h s acc ys, Ex0 w1 ⟨al, h, (D, .lst ys) :: w1.pn⟩ ∧ Rel3 K ⟨al, h, (D, .lst ys) :: w1.pn⟩ H s ∧ Paired (LrR K ⟨al, h, (D, .lst ys) :: w1.pn⟩ s.length) ys acc ∧ acc.length ≤ i ∧ I i acc s,
    ⟨_, Nat.zero_le _, rfl, w1.al, w1.h, S1, [], [], ⟨⟨[], by simp⟩, Same.refl _⟩, r1.pinNew hD, .nil, Nat.le_refl _, h0⟩, ?_⟩
  rintro i m H2 ⟨hi, rfl, al, h, s, acc, ys, e2, r2, da, hacc, h2⟩
  obtain ⟨hstop, hgo⟩ := hJ _ H2 s e2 r2 (hok i acc s h2)
  by_cases hlt : i < xs.length
  · obtain ⟨go, hy⟩ := hgo i xs[i] (List.getElem?_eq_getElem hlt)
    refine .inr ⟨go, fun H' => ∃ al h s acc ys, Ex0 w1 ⟨al, h, (D, .lst ys) :: w1.pn⟩ ∧ Rel3 K ⟨al, h, (D, .lst ys) :: w1.pn⟩ H' s ∧ Paired (LrR K ⟨al, h, (D, .lst ys) :: w1.pn⟩ s.length) ys acc ∧ acc.length ≤ i + 1 ∧ I (i + 1) acc s,
      fun H' ⟨al, h, s, acc, ys, a1, a2, a3, a4, a5⟩ => ⟨xs.length - (i + 1), by omega, hlt, rfl, al, h, s, acc, ys, a1, a2, a3, a4, a5⟩, fun x H' y => ?_⟩
    obtain ⟨w3, e3, r3, d3⟩ := hy x H' y
    have step := hs i xs[i] acc s (List.getElem?_eq_getElem hlt) h2
    cases hbd : bind3 T xs[i] (wipe3 env vs) with
    | none => rw [hbd] at step; exact step.elim
    | some env3 =>
      rw [hbd] at step
      have en3 : EnvR K w3 (wipe σ vs) (wipe3 env vs) := (((en.mono e1).mono0 e2).mono e3).wipe vs
      refine bind_low r3 vs T xs[i] x _ _ env3 hv en3 d3 hbd _ fun σ3 en4 hw => ⟨?_, ?_⟩
      · have ww : ∀ vs' : List Nat, (∀ i ∈ vs', i ∈ vs) → wipe (wipe σ vs) vs' = wipe σ vs := by
          intro vs'
          induction vs' with
          | nil => intro _; rfl
          | cons v vs' ih =>
            intro hsub
            show (wipe (wipe σ vs) vs').set v none = wipe σ vs
            rw [ih fun i hi => hsub i (List.mem_cons_of_mem _ hi)]
            have : ∀ (vs : List Nat), v ∈ vs → (wipe σ vs).set v none = wipe σ vs := by
              intro vs
              induction vs with
              | nil => intro h; cases h
              | cons u vs ih =>
                intro hm
                show ((wipe σ vs).set u none).set v none = (wipe σ vs).set u none
                by_cases e : v = u
                · subst e
                  rw [List.set_set]
                · have hm' : v ∈ vs := (List.mem_cons.mp hm).resolve_left e
                  rw [List.set_comm _ _ (Ne.symm e), ih hm']
            exact this vs (hsub v List.mem_cons_self)
        exact hw.trans (ww vs fun _ h => h)
      · refine ⟨w3, env3, s, _, r3, en4, step, fun w4 b H4 s4 e4 r4 t4 => ?_⟩
        obtain ⟨al4, h4, pn4⟩ := w4
        have hpn : pn4 = (D, .lst ys) :: w1.pn := by
          have a := e4.pn
          have b := e3.pn
          exact a.trans b
        subst hpn
        have e24 : Ex0 w1 ⟨al4, h4, (D, .lst ys) :: w1.pn⟩ := (e2.trans e3.toEx0).trans e4.toEx0
        cases b with
        | false =>
          rw [if_neg Bool.false_ne_true] at t4 ⊢
          exact ⟨al4, h4, s4, acc, ys, e24, r4, lp_mono (e3.toEx0.trans e4.toEx0) t4.1 da, by omega, t4.2⟩
        | true =>
          rw [if_pos rfl] at t4 ⊢
          refine ⟨_, env3, s4, _, r4, en4.mono e4, t4, fun w5 v d H5 s5 e5 r5 p5 t5 => ?_⟩
          obtain ⟨al5, h5, pn5⟩ := w5
          have hpn : pn5 = (D, .lst ys) :: w1.pn := e5.pn
          subst hpn
          have hl := lp_len da
          obtain ⟨t51, t52, t53⟩ := t5
          refine ⟨ys, (r5.pin D _ List.mem_cons_self).1, by omega, al5, h5, s5, acc ++ [d], ys ++ [v], ?_, r5.repin, ?_, ?_, t53⟩
          · exact ⟨(e24.trans e5.toEx0).al, (e24.trans e5.toEx0).h⟩
          · have da5 := lp_mono (n' := s5.length) ((e3.toEx0.trans e4.toEx0).trans e5.toEx0) t51 da
            have := lp_snoc (d := d) (v := v) ⟨p5, t52⟩ da5
            exact lp_mono (w := ⟨al5, h5, (D, .lst ys) :: w1.pn⟩) ⟨⟨[], by simp⟩, Same.refl _⟩ (Nat.le_refl _) this
          · rw [List.length_append, List.length_singleton]
            omega
  · have e' : i = xs.length := by omega
    subst e'
    obtain ⟨r3, hdn, hup⟩ := r2.unpin
    refine .inl ⟨hstop _ (Nat.le_refl _), ?_⟩
    rw [← hup]
    have da3 : Paired (LrR K ⟨al, h, w1.pn⟩ s.length) ys acc := lp_mono (w := ⟨al, h, (D, .lst ys) :: w1.pn⟩) ⟨⟨[], by simp⟩, Same.refl _⟩ (Nat.le_refl _) da
    obtain ⟨r4, e4⟩ := r3.push (a := D) (u := .lst ys) (o := .lls acc) hdn ⟨ys, rfl, da3, by omega⟩
    have e12 : Ex3 w1 ⟨al, h, w1.pn⟩ := ⟨⟨e2.al, e2.h⟩, rfl⟩
    have e14 : Ex3 w ⟨al ++ [D], h, w1.pn⟩ := (e1.trans e12).trans e4
    have hS : al.length = s.length := r3.len
    refine q.nx _ _ _ _ _ e14 r4 ((en.mono e14).set (d := .loc s.length) y ⟨D, ?_, rfl⟩) (hd acc s h2)
    show (al ++ [D])[s.length]? = some D
    rw [← hS, List.getElem?_append_right (Nat.le_refl _)]
    simp
section
variable {X : Cx} {elt tg iter : Expr} {ifs : List Expr} {scope : Scope} {own : List (Str × Nat)} {pos : Pos} {ti : TI3} {T : Tg} {tt : TT3} {te : TE3}
theorem qs_setLL {i : Nat} {y : Str} {py spos : Pos} (hc : X.calm = true) (hN : X.N.Nodup) (hy : X.N[i]? = some y) (hyl : X.env.scope.names.lookup y = some .local)
    (hsw : swapsWith (.ListComp elt [⟨tg, iter, ifs, 0⟩] scope pos) (some (.Name y py)) spos.line X.env = pure true) (hi : QI X tg iter ti) (ok : BlkOk X.N X.env.scope scope own)
    (hg : ∀ (s : Shared) (H : Hp) (C : Addr) (cl : List (Str × Addr)) (fp : List Addr), QB (X.blk s H scope (compEnvC scope cl C X.env) fp) tg T) (ht : ∀ (s : Shared) (H : Hp) (C : Addr) (cl : List (Str × Addr)) (fp : List Addr), QTs (X.blk s H scope (compEnvC scope cl C X.env) fp) ifs tt)
    (he : ∀ (s : Shared) (H : Hp) (C : Addr) (cl : List (Str × Addr)) (fp : List Addr), QE (X.blk s H scope (compEnvC scope cl C X.env) fp) elt te) (hv : ∀ i ∈ T.slots, i ∈ own.map (·.2) := by decide) (hs : ∀ x, foldedSetIterable iter X.env x = pure x := by intro _; rfl) :
    QS X (.Assign [.Name y py] (.ListComp elt [⟨tg, iter, ifs, 0⟩] scope pos) spos) (tSetLL3 i ti T tt te (own.map (·.2))) := (ps_setLc hc hN hy hyl hsw hi ok hg ht he hs).imp fun D σ H ⟨w, env, S, D3, r0, en, t, q⟩ => ll_low (R := fun _ _ => True) hv ⟨w, env, S, D3, r0, en, t, q⟩
end
/-! xs[i], xs a list of own lists -/
theorem lp_get {K : PySem.W.Frag} {w : W3} {n : Nat} : ∀ {xs : List V} {ds : List D} {i : Nat} {d : D}, Paired (LrR K w n) xs ds → ds[i]? = some d → ∃ v, xs[i]? = some v ∧ RepD K w v d
  | _, _, i, _, .nil, e => by simp at e
  | _, _, 0, _, .cons r _, e => by
    simp at e
    subst e
    exact ⟨_, rfl, r.1⟩
  | _, _, i + 1, d, .cons _ rs, e => by
    obtain ⟨v, h1, h2⟩ := lp_get (i := i) rs (by simpa using e)
    exact ⟨v, by simpa using h1, h2⟩
def rIxL3 : R3 := fun x y S Q => match lls3 S x, y with
  | some (_, ds), .p (.int i) => (match ixN ds.length i with
    | some j => (match ds[j]? with
      | some d => Q d S
      | none => False)
    | none => False)
  | _, _ => False
theorem iq_lls {X : Cx} : IQ X rIxL3 := IxR.imp ix_seq fun x y H R ⟨w, S, d, e, Q, r0, p1, p2, t, q⟩ => by
  unfold rIxL3 at t
  split at t
  · rename_i n ds i h1
    have hy := dp_int p2
    subst hy
    split at t
    · rename_i j hj
      split at t
      · rename_i d' hd'
        obtain ⟨a, xs, rfl, rfl, ha, hs, hu, hp, hz⟩ := lls3_low r0 p1 h1
        obtain ⟨v, h2, h3⟩ := lp_get hp hd'
        refine .inl ⟨a, xs, _, v, rfl, rfl, .inl (.inl hu), ?_, q.old (d := d') r0 h3 t⟩
        unfold atI
        rw [lp_len hp, hj]
        exact h2
      · exact t.elim
    · exact t.elim
  · exact t.elim
/-! a list of own lists is said to change no more, with all that stands in it -/
theorem Rel3.freezeG {K : PySem.W.Frag} {w : W3} {H : Hp} {S : S3} (r : Rel3 K w H S) {n : Nat} {a : Addr} {o : O3} {xs : List V} {ds : List PyData} (ha : w.al[n]? = some a) (hs : S[n]? = some (some o)) (hu : H a = some (.lst xs)) (hd : DpAll K w.h xs ds) (hz : ds.length ≤ sizeLine) :
    Rel3 K ⟨w.al, upd w.h a (.lst xs), w.pn⟩ H (S.set n none) ∧ Ex3 w ⟨w.al, upd w.h a (.lst xs), w.pn⟩ ∧ Dp K (upd w.h a (.lst xs)) (.ref a) (.list ds) := by
  obtain ⟨hw, _⟩ := r.live n a _ ha hs
  have hlen : n < S.length := (List.getElem?_eq_some_iff.mp hs).1
  have sm : Same w.h (upd w.h a (.lst xs)) := fun b o e => by
    rw [upd_ne (ne_of_none e hw)]
    exact e
  have ex : Ex3 w ⟨w.al, upd w.h a (.lst xs), w.pn⟩ := ⟨⟨⟨[], by simp⟩, sm⟩, rfl⟩
  have other : ∀ m b, w.al[m]? = some b → m ≠ n → b ≠ a := fun m b e hm z => by
    subst z
    obtain ⟨h1, e1⟩ := List.getElem?_eq_some_iff.mp e
    obtain ⟨h2, e2⟩ := List.getElem?_eq_some_iff.mp ha
    exact hm ((List.getElem_inj r.nd).mp (e1.trans e2.symm))
  refine ⟨⟨fun b x e => ?_, fun b x e => ?_, by simp [r.len], fun m b x e q => ?_, fun m b e q => ?_, r.nd, fun b o hb => ?_, r.pnd⟩, ex, .lst (.inl (.inl upd_same)) (dpAll_mono sm ds xs hd)⟩
  · have e' : upd w.h a (.lst xs) b = some x := e
    by_cases hb : b = a
    · subst hb
      rw [upd_same] at e'
      cases e'
      exact hu
    · rw [upd_ne hb] at e'
      exact r.sub b x e'
  · have e' : upd w.h a (.lst xs) b = some x := e
    by_cases hb : b = a
    · subst hb
      rw [upd_same] at e'
      cases e'
      show xs.length ≤ sizeLine
      rw [DpAll.length hd]
      exact hz
    · rw [upd_ne hb] at e'
      exact r.sz b x e'
  · by_cases hm : m = n
    · subst hm
      rw [List.getElem?_set_self hlen] at q
      cases q
    · rw [List.getElem?_set_ne (Ne.symm hm)] at q
      obtain ⟨h1, y, h2, h3⟩ := r.live m b x e q
      exact ⟨by show upd w.h a (.lst xs) b = none; rw [upd_ne (other m b e hm)]; exact h1, y, h2, h3.mono ex.toEx0⟩
  · by_cases hm : m = n
    · subst hm
      have : b = a := Option.some.inj (e.symm.trans ha)
      subst this
      exact ⟨_, upd_same⟩
    · rw [List.getElem?_set_ne (Ne.symm hm)] at q
      obtain ⟨y, h1⟩ := r.dead m b e q
      exact ⟨y, sm b y h1⟩
  · obtain ⟨h1, h2, h3⟩ := r.pin b o hb
    have nb : b ≠ a := fun z => h3 (by rw [z]; exact List.mem_of_getElem? ha)
    exact ⟨h1, by show upd w.h a (.lst xs) b = none; rw [upd_ne nb]; exact h2, h3⟩
def noneAll (S : S3) : List Nat → S3
  | [] => S
  | n :: ns => noneAll (S.set n none) ns
theorem noneAll_other {n : Nat} : ∀ {ns : List Nat} {S : S3}, n ∉ ns → (noneAll S ns)[n]? = S[n]?
  | [], _, _ => rfl
  | m :: ns, S, h => by
    have h1 : n ≠ m := fun z => h (by rw [z]; exact List.mem_cons_self)
    have h2 : n ∉ ns := fun z => h (List.mem_cons_of_mem _ z)
    show (noneAll (S.set m none) ns)[n]? = _
    rw [noneAll_other h2, List.getElem?_set_ne (Ne.symm h1)]
theorem freeze_all {K : PySem.W.Frag} {H : Hp} : ∀ {ns : List Nat} {dss : List (List PyData)} {xs : List V} {w : W3} {S : S3}, Rel3 K w H S → (∀ (j : Nat) (n : Nat) (ds : List PyData), ns[j]? = some n → dss[j]? = some ds → S[n]? = some (some (.lst ds))) → ns.length = dss.length → ns.Nodup → Paired (fun v n => RepD K w v (.loc n)) xs ns →
    ∃ w', Rel3 K w' H (noneAll S ns) ∧ Ex3 w w' ∧ DpAll K w'.h xs (dss.map PyData.list)
  | [], [], _, w, S, r, _, _, _, .nil => ⟨w, r, Ex3.refl w, .nil⟩
  | n :: ns, ds :: dss, _, w, S, r, hs, hl, nd, .cons (a := v) (l₁ := xs) p ps => by
    obtain ⟨a, ha, rfl⟩ := p
    obtain ⟨n1, n2⟩ := List.nodup_cons.mp nd
    have h0 := hs 0 n ds rfl rfl
    obtain ⟨u, r1, e1, d1⟩ := r.freeze ha h0
    obtain ⟨w', r2, e2, d2⟩ := freeze_all (ns := ns) (dss := dss) (xs := xs) r1 (fun j m es h1 h2 => by
      have h3 := hs (j + 1) m es (by simpa using h1) (by simpa using h2)
      have hm : m ≠ n := fun z => n1 (by rw [← z]; exact List.mem_of_getElem? h1)
      rw [List.getElem?_set_ne (Ne.symm hm)]
      exact h3) (by simpa using hl) n2 (Paired.mapP ps fun v m z => z.mono e1)
    exact ⟨w', r2, e1.trans e2, .cons (dp_mono e2.h _ _ d1) d2⟩
def tFrzL3 (i : Nat) (u : TS3) : TS3 := fun D env S => match at3 env i with
  | some (.loc n) => ∃ (ns : List Nat) (dss : List (List PyData)), S[n]? = some (some (.lls (ns.map L3.D.loc))) ∧ ns.length = dss.length ∧ ns.Nodup ∧ n ∉ ns ∧ (∀ (j : Nat) (m : Nat) (ds : List PyData), ns[j]? = some m → dss[j]? = some ds → S[m]? = some (some (.lst ds))) ∧ u D (set3 env i (.p (.list (dss.map PyData.list)))) ((noneAll S ns).set n none)
  | _ => False
theorem lp_locs {K : PySem.W.Frag} {w : W3} {n : Nat} : ∀ {ns : List Nat} {xs : List V}, Paired (LrR K w n) xs (ns.map D.loc) → Paired (fun v m => RepD K w v (.loc m)) xs ns
  | [], _, .nil => .nil
  | m :: ns, _, .cons r rs => .cons r.1 (lp_locs rs)
section
variable {X : Cx} {rest : List Stmt} {u : TS3}
theorem qss_frzL (i : Nat) (h : QSs X rest u) : QSs X rest (tFrzL3 i u) := L2.PSs.imp h fun D σ H ⟨w, env, S, D3, r, en, t, q⟩ => by
  unfold tFrzL3 at t
  split at t
  · rename_i n hn
    obtain ⟨ns, dss, hs, hl, nd, hnn, hin, t⟩ := t
    obtain ⟨v, hv, a, ha, rfl⟩ := en.2 i _ hn
    obtain ⟨_, x, hu, xs, rfl, hp, hz⟩ := r.live n a _ ha hs
    obtain ⟨w', r1, e1, d1⟩ := freeze_all r hin hl nd (lp_locs hp)
    obtain ⟨al', h', pn'⟩ := w'
    have ha' : al'[n]? = some a := by
      obtain ⟨t', ht'⟩ := e1.al
      have ht2 : al' = w.al ++ t' := ht'
      rw [ht2, List.getElem?_append_left (List.getElem?_eq_some_iff.mp ha).1]
      exact ha
    have hs' : (noneAll S ns)[n]? = some (some (.lls (ns.map L3.D.loc))) := by rw [noneAll_other hnn]; exact hs
    obtain ⟨r2, e2, d2⟩ := r1.freezeG ha' hs' hu d1 (by
      rw [List.length_map] at hz ⊢
      omega)
    exact ⟨_, _, _, D3, r2, (en.mono (e1.trans e2)).put (d := .p (.list (dss.map PyData.list))) hv d2, t, q.mono (e1.trans e2)⟩
  · exact t.elim
end
end L3

namespace L3
open PySem PySem.Spec PyProof.Rows L2
/-! ### max of a tuple of ints -/
open PySem.W in
theorem max_tuple_ix {prog : Program} {w : World} {A : Around} {E : Value → Shared → Prop} {s : Shared} {l : Addr} {vs : Array Value} {x : PyData} {xs : List PyData} {as : List Addr} {Q : Value → Shared → Prop} (hh : A.handled = none) (hl : s.heap.IsTuple l vs) (hr : ReadsAll s.heap vs.toList (x :: xs) as) (ha : AlikeAll (x :: xs)) (hu : A.units + 1 + PyData.depthAll (x :: xs) < cLine)
    (h : ∀ (i : Nat) v h' tk, i < xs.length + 1 → vs[i]? = some v → (x :: xs).getD i .none = maxD x xs → (∀ b o, s.heap.get? b = some o → h'.get? b = some o) → Q v { s with heap := h', toks := tk }) :
    wpAny (model prog w) A (call (.builtin "max") [.ref l]) Q E s := by
  have hn : vs.size = xs.length + 1 := readsAll_len hr
  refine call_max_walkH (iter_tupleW (A := A.in1) hh hl fun s₂ e W st hfp hw hk => ?_)
  refine ⟨_, _, _, _, _, _, _, s.heap, _, rfl, W, st, hfp, by omega, hw, hk, cmpIn_gt (A := A.in1) hr ha (by show A.units + 1 + _ < _; exact hu), fun v s' hP m => ?_⟩
  obtain ⟨h', tk, rfl, hk'⟩ := moved_old e rfl m
  have e1 : vs.size - 1 = xs.length := by omega
  have e2 := argBest_fold (fun a b => dataLt b a) PyData.none x xs xs.length (Nat.le_refl _)
  rw [List.take_length] at e2
  rw [e1] at hP
  exact h _ v h' tk (Nat.lt_succ_of_le e2.1) hP (by unfold maxD; exact e2.2) hk'
theorem maxD_ints : ∀ (ns : List Int) (n : Int), PySem.W.maxD (.int n) (ns.map PyData.int) = .int (ns.foldl (fun a b => if b > a then b else a) n)
  | [], n => rfl
  | k :: ns, n => by
    have ih := maxD_ints ns
    unfold PySem.W.maxD at ih ⊢
    rw [List.map_cons, List.foldl_cons, List.foldl_cons, ← ih]
    congr 1
    rw [PySem.W.dataLt_int]
    by_cases h : n < k
    · simp [h]
    · simp [h]
theorem depthAll_ints0 : ∀ ws : List Int, PyData.depthAll (ws.map PyData.int) = 0
  | [] => by rw [List.map_nil]; unfold PyData.depthAll; rfl
  | w :: ws => by
    rw [List.map_cons]
    unfold PyData.depthAll
    rw [depthAll_ints0 ws]
    rfl
theorem cr_maxT {X : Cx} (hc : X.calm = true) (hu : X.A.units + 64 < cLine) : CallR X (.builtin "max") (fun xs H Q => ∃ (a : Addr) (n : Int) (ns : List Int), xs = [V.ref a] ∧ SqT X.K H a ((n :: ns).map V.int) ∧ Q (.int (maxI (n :: ns))) H) := by
  intro pins s σ H vs us Q I r h
  obtain ⟨a, n, ns, rfl, hs, q⟩ := h
  obtain ⟨its, rv, hl, _⟩ := I.tuple hs
  rw [Vals.ref1 r]
  obtain ⟨as, hr⟩ := dpAll_reads I rv (dpAll_ints (n :: ns))
  refine max_tuple_ix (x := .int n) (xs := ns.map PyData.int) (I.ok.hd hc) hl hr ⟨fun x hx y hy => ?_, fun x hx => ?_⟩ (by rw [show PyData.int n :: ns.map PyData.int = (n :: ns).map PyData.int from rfl, depthAll_ints0]; omega) fun i v h' tk hi hv hm hk => ?_
  · have hx' : x ∈ (n :: ns).map PyData.int := hx
    have hy' : y ∈ (n :: ns).map PyData.int := hy
    obtain ⟨i, _, rfl⟩ := List.mem_map.mp hx'
    obtain ⟨j, _, rfl⟩ := List.mem_map.mp hy'
    rfl
  · have hx' : x ∈ (n :: ns).map PyData.int := hx
    obtain ⟨i, _, rfl⟩ := List.mem_map.mp hx'
    exact fun h => by cases h
  · obtain ⟨y, hy, hrel⟩ := vals_ix rv i v (by simpa using hv)
    rw [List.getElem?_map] at hy
    obtain ⟨k, hk2, rfl⟩ := Option.map_eq_some_iff.mp hy
    rw [maxD_ints] at hm
    have e : k = maxI (n :: ns) := by
      have h1 : (PyData.int n :: ns.map PyData.int).getD i .none = .int k := by
        rw [show PyData.int n :: ns.map PyData.int = (n :: ns).map PyData.int from rfl, List.getD_eq_getElem?_getD, List.getElem?_map, hk2]
        rfl
      rw [h1] at hm
      cases hm
      rfl
    subst e
    exact ⟨.int _, H, I.kept hk, hrel, q⟩
def rMaxT3 : C3 := fun ds S Q => match ds with
  | [.p (.tuple ds)] => (match allP int? ds with
    | some (n :: ns) => Q (.p (.int (maxI (n :: ns)))) S
    | _ => False)
  | _ => False
theorem cq_maxT {X : Cx} (hc : X.calm = true) (hu : X.A.units + 64 < cLine) : CQ X (.builtin "max") rMaxT3 := callq (cr_maxT hc hu) fun w S ds xs H Q R r0 p1 t q => by
  unfold rMaxT3 at t
  split at t
  · obtain ⟨v, rfl, p⟩ := rds1 p1
    split at t
    · rename_i n ns h1
      have p' := dp_mono r0.sub _ _ p
      rw [allP_int h1] at p'
      obtain ⟨a, ys, rfl, hq, ha⟩ := dp_tup_ref p'
      rw [dp_ints ha] at hq
      exact ⟨a, n, ns, rfl, hq, q.int r0 t⟩
    · exact t.elim
  · exact t.elim
end L3

namespace L3
open PySem PySem.Spec PyProof.Rows L2
/-! ### dict(pairs) whose keys are tuples; sorted(d) and len(d) of such a dict -/
def mergeT {β : Type} (kvs more : List (List Key × β)) : List (List Key × β) := more.foldl (fun acc kv => putE acc kv.1 kv.2) kvs
def mergeTV (kvs more : List (List Key × V)) : List (List Key × V) := more.foldl (fun acc kv => putK acc kv.1 kv.2) kvs
/-- a pair at p: the key's tuple at b, the value -/
abbrev PairT (K : PySem.W.Frag) (H : Hp) : Addr × Addr → List Key × V → Prop := fun p kv => SqT K H p.1 [.ref p.2, kv.2] ∧ H p.2 = some (.tup (kv.1.map kV))
section
variable {X : Cx}
theorem pairsT_of {pins : List (Addr × Obj)} {σ : L2.St} {H : Hp} {s : Shared} (I : L2.Inv X pins σ H s) : ∀ {ps : List (Addr × Addr)} {kvs : List (List Key × V)}, Paired (PairT X.K H) ps kvs →
    ∃ us : List Value, us.length = ps.length ∧ (∀ (j : Nat) (p : Addr × Addr) (u : Value), ps[j]? = some p → us[j]? = some u → IsTup s.heap p.1 #[.ref p.2, u]) ∧
      ∃ xs : List (List Key × Addr × Value), KT H kvs xs ∧ xs.length = ps.length ∧ ∀ (j : Nat) (p : Addr × Addr) (u : Value), ps[j]? = some p → us[j]? = some u → ∃ k, xs[j]? = some (k, p.2, u)
  | _, _, .nil => ⟨[], rfl, fun j p u e => by simp at e, [], .nil, rfl, fun j p u e => by simp at e⟩
  | _, _, .cons (a := p) (b := kv) h t => by
    obtain ⟨us, hl, hp, xs, hk, hx, hxs⟩ := pairsT_of I t
    obtain ⟨its, rv, ht, _⟩ := I.tuple h.1
    obtain ⟨u, y, ei, ru, ry⟩ := vals2 rv
    subst ei
    cases ru
    refine ⟨y :: us, by rw [List.length_cons, List.length_cons, hl], fun j q u e1 e2 => ?_, (kv.1, p.2, y) :: xs, .cons ⟨rfl, h.2, ry⟩ hk, by rw [List.length_cons, List.length_cons, hx], fun j q u e1 e2 => ?_⟩
    · cases j with
      | zero =>
        simp at e1 e2
        subst e1 e2
        exact ht
      | succ j => exact hp j q u (by simpa using e1) (by simpa using e2)
    · cases j with
      | zero =>
        simp at e1 e2
        subst e1 e2
        exact ⟨kv.1, rfl⟩
      | succ j => exact hxs j q u (by simpa using e1) (by simpa using e2)
theorem KT.storeAll {H : Hp} : ∀ {more : List (List Key × V)} {rs : List (List Key × Addr × Value)} {kvs : List (List Key × V)} {vs : List (List Key × Addr × Value)}, KT H more rs → KT H kvs vs → KT H (mergeTV kvs more) (storedAllH vs rs)
  | _, _, _, _, .nil, q => q
  | _, _, _, _, .cons h t, q => by
    obtain ⟨h1, h2, h3⟩ := h
    show KT H (mergeTV (putK _ _ _) _) (storedAllH (storedH _ _ _ _) _)
    rw [← h1]
    exact KT.storeAll t (q.put _ h2 h3)
theorem kt_is {P : Program} {w : World} {H : Hp} {h : Heap} (ok : HOk P w H h) : ∀ {kvs : List (List Key × V)} {xs : List (List Key × Addr × Value)}, KT H kvs xs → ∀ x ∈ xs, (tupleKind (mixKind P w)).is h x.1 x.2.1
  | _, _, .nil, x, hx => nomatch hx
  | _, _, .cons (a := p) (b := q) h t, x, hx => by
    rcases List.mem_cons.mp hx with e | hx
    · subst e
      exact key_of ok (by rw [← h.1]; exact h.2.1)
    · exact kt_is ok t x hx
theorem mergeTV_length : ∀ (more kvs : List (List Key × V)), (mergeTV kvs more).length ≤ kvs.length + more.length
  | [], _ => Nat.le_refl _
  | p :: more, kvs => by
    have h1 := mergeTV_length more (putK kvs p.1 p.2)
    have h2 : (putK kvs p.1 p.2).length ≤ kvs.length + 1 := by
      unfold putK
      split <;> simp
    show (mergeTV (putK kvs p.1 p.2) more).length ≤ _
    simp only [List.length_cons]
    omega
theorem nodup_entries {w : World} {P : Program} {h : Heap} {a : Addr} {xs : List (List Key × Addr × Value)} (d : h.DictOfH (tupleKind (mixKind P w)) a xs) : ∃ o es ep, h.get? a = some o ∧ o.ExactDict ∧ o.data = .dict es ep ∧ es.toList = xs.map (entryOfKey (tupleKind (mixKind P w))) ∧ (xs.map (·.1)).Nodup := by
  obtain ⟨o, es, ep, h1, h2, h3, h4, _, h5⟩ := d
  exact ⟨o, es, ep, h1, h2, h3, h4, h5⟩
/-- dict(xs) of a list of pairs whose keys are tuples -/
theorem call_dictPT (hcalm : X.calm = true) (hu : X.A.units + 64 < cLine) : CallR X (.type "dict") (fun xs H Q => ∃ (a : Addr) (ps : List (Addr × Addr)) (kvs : List (List Key × V)), xs = [.ref a] ∧ SqL X.K H a (ps.map fun p => V.ref p.1) ∧ Paired (PairT X.K H) ps kvs ∧
    ∀ p, H p = none → Q (.ref p) (upd H p (.dT (mergeTV [] kvs)))) := by
  intro pins s σ H xs us Q I r q
  obtain ⟨a, ps, kvs, ex, hq, hp, q⟩ := q
  subst ex
  obtain ⟨u, eu, rx⟩ := vals1 r
  subst eu
  cases rx
  obtain ⟨its, rv, pl, hz⟩ := I.list hq
  have ei : its = (ps.map (·.1)).map Value.ref := refs_at (ps := ps.map (·.1)) (by rw [List.map_map]; exact rv)
  subst ei
  rw [List.length_map] at hz
  obtain ⟨us, hl, hpr, ys, hk, hx, hys⟩ := pairsT_of I hp
  obtain ⟨o, n, ho, hc, hd, hdat⟩ := pl
  have hzip : ∀ (j : Nat) (k v : Value), ((ps.map fun p => Value.ref p.2).zip us)[j]? = some (k, v) → ∃ p, ps[j]? = some p ∧ k = .ref p.2 ∧ us[j]? = some v := by
    intro j k v e
    obtain ⟨h1, h2⟩ := List.getElem?_zip_eq_some.mp e
    rw [List.getElem?_map] at h1
    cases hpj : ps[j]? with
    | none => rw [hpj] at h1; cases h1
    | some p =>
      rw [hpj] at h1
      exact ⟨p, rfl, (Option.some.inj h1).symm, h2⟩
  have hlen : ((ps.map fun p => Value.ref p.2).zip us).length = ps.length := by
    rw [List.length_zip, List.length_map, hl, Nat.min_self]
  have harr : ∀ (j : Nat) (p : Addr × Addr), ps[j]? = some p → ((ps.map (·.1)).map Value.ref).toArray[j]? = some (Value.ref p.1) := by
    intro j p e
    rw [List.getElem?_toArray, List.getElem?_map, List.getElem?_map, e]
    all_goals rfl
  refine call_dict_pairsH (knd := tupleKind (mixKind X.prog X.w)) (ps := ys) (Q := EP X pins σ Q) (PairArg.list a ((ps.map (·.1)).map Value.ref).toArray (fun j => ((ps.map (·.1))[j]?).getD 0) ((ps.map fun p => Value.ref p.2).zip us)) (I.ok.hd hcalm) (by show X.A.units + 1 + 1 < cLine; omega)
    ⟨⟨o, n, ho, hc, hd, hdat⟩, by simp [hl], fun j k v e => ?_⟩ ⟨by rw [hx, hlen], fun j k v e => ?_⟩ (fun h' hk' x hx' => ?_) (by rw [hlen]; exact hz) fun h' tk hd' k => ?_
  · obtain ⟨p, e1, rfl, e2⟩ := hzip j k v e
    have e3 : ((ps.map (·.1))[j]?).getD 0 = p.1 := by rw [List.getElem?_map, e1]; rfl
    simp only [e3]
    obtain ⟨ob, h1, h2, m, h3⟩ := hpr j p v e1 e2
    exact ⟨harr j p e1, .inl ⟨ob, h1, h2, m, h3⟩⟩
  · obtain ⟨p, e1, rfl, e2⟩ := hzip j k v e
    obtain ⟨k', e3⟩ := hys j p v e1 e2
    exact ⟨k', p.2, e3, rfl⟩
  · obtain ⟨ob, its', m, h1, h2⟩ := kt_is I.hok hk x hx'
    exact ⟨ob, its', m, hk' _ _ (Nat.ne_of_lt (Heap.lt_size h1)) (fun z => nomatch z) h1, h2⟩
  · have hm : (s.heap.objs.size == sysModules) = false := beq_eq_false_iff_ne.mpr (Nat.ne_of_gt I.big)
    have hkl : kvs.length = ps.length := (Paired.length hp).symm
    have hlen2 : (mergeTV [] kvs).length ≤ sizeLine := by
      refine Nat.le_trans (mergeTV_length kvs []) ?_
      rw [List.length_nil, Nat.zero_add, hkl]
      simpa using hz
    have hkt : KT H (mergeTV [] kvs) (storedAllH [] ys) := KT.storeAll hk .nil
    have hn := I.hok.fresh (a := s.heap.objs.size) (Nat.le_refl _)
    have hkt' : KT (upd H s.heap.objs.size (.dT (mergeTV [] kvs))) (mergeTV [] kvs) (storedAllH [] ys) := hkt.keeps fun b zs e => by
      rw [upd_ne (fun z => by subst z; rw [hn] at e; cases e)]
      exact e
    obtain ⟨ob, es, ep, g⟩ := nodup_entries hd'
    exact ⟨V.ref s.heap.objs.size, upd H s.heap.objs.size (.dT (mergeTV [] kvs)), I.laid (t' := tk) (fun b o e => k b o (fun z => nomatch z) e) (Nat.le_refl _) (show ObjOk X.prog X.w _ _ _ (.dT (mergeTV [] kvs)) from ⟨hlen2, hm, storedAllH [] ys, hkt', ob, es, ep, g⟩), rfl, q _ hn⟩

/-- the key as data -/
def keyPd (k : List Key) : PyData := .tuple (k.map datK)
theorem dp_datK {K : PySem.W.Frag} {H : Hp} : ∀ k : Key, Dp K H (kV k) (datK k)
  | .inl i => .int i
  | .inr x => .str x
theorem dp_datKs {K : PySem.W.Frag} {H : Hp} : ∀ ks : List Key, DpAll K H (ks.map kV) (ks.map datK)
  | [] => .nil
  | k :: ks => .cons (dp_datK k) (dp_datKs ks)
theorem dp_keyPd {K : PySem.W.Frag} {H : Hp} {b : Addr} {k : List Key} (h : H b = some (.tup (k.map kV))) : Dp K H (.ref b) (keyPd k) := .tup (.inl (.inl h)) (dp_datKs k)
/-- the tuples that are a dict's keys, in order -/
abbrev KeysAt (H : Hp) : List (List Key × V) → List Addr → Prop := Paired fun p b => H b = some (.tup (p.1.map kV)) ∧ p.1.length ≤ sizeLine
theorem keysAt_of {P : Program} {w : World} {H : Hp} {h : Heap} (ok : HOk P w H h) : ∀ {kvs : List (List Key × V)} {xs : List (List Key × Addr × Value)}, KT H kvs xs → KeysAt H kvs (xs.map fun x => x.2.1)
  | _, _, .nil => .nil
  | _, _, .cons (a := p) (b := q) h t => by
    refine .cons ⟨h.2.1, ?_⟩ (keysAt_of ok t)
    have := (show ObjOk P w H _ q.2.1 (.tup (p.1.map kV)) from ok _ _ h.2.1).1
    simpa using this
theorem dpAll_keys {K : PySem.W.Frag} {H : Hp} : ∀ {kvs : List (List Key × V)} {bs : List Addr}, KeysAt H kvs bs → DpAll K H (bs.map V.ref) (kvs.map fun p => keyPd p.1)
  | _, _, .nil => .nil
  | _, _, .cons h t => .cons (dp_keyPd h.1) (dpAll_keys t)
open PySem.W in
def rSortedT : List V → Hp → VK → Prop := fun vs H Q => ∃ (d : Addr) (kvs : List (List Key × V)), vs = [V.ref d] ∧ Rd H d (.dT kvs) ∧ AllAlike (kvs.map fun p => keyPd p.1) ∧ Sortable (kvs.map fun p => keyPd p.1) ∧ (∀ e ∈ kvs.map (fun p => keyPd p.1), e.depth ≤ 60) ∧
  ∀ p bs, H p = none → KeysAt H kvs bs → kvs.length ≤ sizeLine → Q (.ref p) (upd H p (.lst ((((bs.map V.ref).zip (kvs.map fun p => keyPd p.1)).mergeSort (dataLe false Prod.snd)).map (·.1))))
open PySem.W in
theorem cr_sortedT (hcalm : X.calm = true) (hu : X.A.units + 64 < cLine) : CallR X (.builtin "sorted") rSortedT := by
  intro pins s σ H vs us Q I r h
  obtain ⟨d, kvs, rfl, hd, hal, hk, hdep, q⟩ := h
  obtain ⟨u, rfl, rx⟩ := r.one
  cases rx
  obtain ⟨z, hs, ks, pr, o, es, ep, ho, hx, hdt, he, hn⟩ := (show ObjOk X.prog X.w H s.heap d (.dT kvs) from hd.ok I.hok)
  have l1 : es.size = ks.length := size_of_entries he
  have l2 : kvs.length = ks.length := Paired.length pr
  refine Calls.call_function_entry PyProof.Rows.kind_sorted PyProof.Rows.plain_sorted PyProof.Rows.entry_sorted (PyProof.Rows.args_sorted1 _) ?_
  unfold Builtin.«sorted»
  refine wpAny_bind (m := checkCount "sorted" 1 1 _) (wpAny_pure ?_)
  refine wpAny_bind (PySem.W.kdu_collect (A := X.A.in1) (kdl_raw hs hx hdt) (I.ok.hd hcalm) ho (by omega) fun h' tk acc hkp it => ?_)
  have hacl : acc.toList.length = ks.length := by rw [Array.length_toList, it.1]; exact l1
  have ea : acc.toList = (ks.map fun x => x.2.1).map Value.ref := by
    rw [List.map_map]
    apply List.ext_getElem?
    intro j
    rw [List.getElem?_map]
    cases hj : acc.toList[j]? with
    | none =>
      have h1 := List.getElem?_eq_none_iff.mp hj
      rw [List.getElem?_eq_none (by omega)]
      all_goals rfl
    | some v =>
      obtain ⟨en, hen, hv⟩ := it.2 j v (by rw [← Array.getElem?_toList]; exact hj)
      have qe := entry_at he j
      rw [hen] at qe
      cases hb : ks[j]? with
      | none =>
        rw [hb] at qe
        exact nomatch (show some en = none from qe)
      | some b =>
        rw [hb] at qe
        have e2 : en = entryOfKey (tupleKind (mixKind X.prog X.w)) b := Option.some.inj qe
        rw [hv, e2]
        all_goals rfl
  have rv : Vals ((ks.map fun x => x.2.1).map V.ref) acc.toList := by rw [ea]; exact vals_refs _
  have hka : KeysAt H kvs (ks.map fun x => x.2.1) := keysAt_of I.hok pr
  have hdp : DpAll X.K H ((ks.map fun x => x.2.1).map V.ref) (kvs.map fun p => keyPd p.1) := dpAll_keys hka
  obtain ⟨e1, e2⟩ := each_zip I rv hdp
  generalize hbs : ((ks.map fun x => x.2.1).map V.ref).zip (kvs.map fun p => keyPd p.1) = bs at e1 e2
  have hm : bs.map Prod.snd = kvs.map fun p => keyPd p.1 := by
    rw [← hbs]
    exact zip_snd (by simp [l2])
  have hbl : bs.length = ks.length := by rw [← hbs, List.length_zip]; simp [l2]
  have I1 : L2.Inv X pins σ H { s with heap := h', toks := tk } := I.kept hkp
  refine wpAny_bind (wpAny_newList ?_ (by rw [hacl]; omega))
  have hoL : (h'.push (seqObj "list" acc.toList.toArray 0)).get? h'.objs.size = some (seqObj "list" acc.toList.toArray 0) := Heap.get?_push_size _ rfl
  show wpAny _ _ _ _ _ { s with heap := h'.push (seqObj "list" acc.toList.toArray 0), toks := tk }
  have old : ∀ b o, s.heap.get? b = some o → (sortingHeap (h'.push (seqObj "list" acc.toList.toArray 0)) h'.objs.size acc.toList).get? b = some o := fun b o e =>
    sortingHeap_old (Nat.ne_of_lt (Heap.lt_size (hkp b o e))) (Heap.get?_push_of_some _ (hkp b o e))
  have er' : EachIs (fun v b => ∃ as, Reads (sortingHeap (h'.push (seqObj "list" acc.toList.toArray 0)) h'.objs.size acc.toList) v (Prod.snd b) as) acc.toList bs := e2.mono fun _ _ ⟨as, r⟩ => ⟨as, PyProof.Rows.Reads.keeps old r⟩
  have hub : ∀ b, b ∈ bs → X.A.in1.in1.units + (Prod.snd b).depth < cLine := fun b hb => by
    have : b.2 ∈ kvs.map fun p => keyPd p.1 := by
      rw [← hm]
      exact List.mem_map.mpr ⟨b, hb, rfl⟩
    have := hdep _ this
    show X.A.units + 1 + 1 + _ < cLine
    omega
  refine wpAny_bind (wpAny_holding (wpAny_call_entry PyProof.Rows.slot_list_sort ⟨_, hoL, rfl⟩ PyProof.Rows.entry_list_sort
    (list_sort_vals (κ := dataKind (sortingHeap (h'.push (seqObj "list" acc.toList.toArray 0)) h'.objs.size acc.toList) (bs.map Prod.snd)) hoL (SortsAt.data (s := { s with heap := sortingHeap (h'.push (seqObj "list" acc.toList.toArray 0)) h'.objs.size acc.toList, toks := tk }) (each_map (R := fun v d => ∃ as, Reads (sortingHeap (h'.push (seqObj "list" acc.toList.toArray 0)) h'.objs.size acc.toList) v d as) Prod.snd er') (by rw [hm]; exact hal) (by rw [hm]; exact hk) (bound_map hub)) (by rw [hacl]; omega) ⟨_, rfl, ?_⟩)
    (PyProof.Rows.args_list_sort _)))
  have hR := sortVals_data (enc := Prod.snd) false e1 er' (by rw [hm]; exact hal)
  obtain ⟨e', he'⟩ := PyProof.Rows.sortedHeap_at (vs := acc.toList) (out := (sortVals (dataKind (sortingHeap (h'.push (seqObj "list" acc.toList.toArray 0)) h'.objs.size acc.toList) (bs.map Prod.snd)) false acc.toList acc.toList).toArray) hoL
  have hl2 : ((bs.mergeSort (dataLe false Prod.snd)).map (·.1)).length ≤ sizeLine := by
    rw [List.length_map, List.length_mergeSort, hbl]
    omega
  have q' := q h'.objs.size (ks.map fun x => x.2.1) (I1.hok.fresh (Nat.le_refl _)) hka z
  rw [hbs] at q'
  refine wpAny_pure ⟨_, rfl, .ref h'.objs.size, upd H h'.objs.size (.lst ((bs.mergeSort (dataLe false Prod.snd)).map (·.1))), I1.laid (t' := tk) (fun b u e => ?_) (Nat.le_refl _) ⟨hl2, _, e', vals_each hR, he'⟩, rfl, q'⟩
  have hb : b < h'.objs.size := Heap.lt_size e
  rw [PyProof.Rows.sortedHeap_old (Nat.ne_of_lt hb) (by rw [size_push']; exact Nat.lt_succ_of_lt hb)]
  exact Heap.get?_push_of_some _ e
end
/-- a tuple that the heap holds goes into the world -/
theorem Rel3.tup {K : PySem.W.Frag} {w : W3} {H : Hp} {S : S3} (r : Rel3 K w H S) {b : Addr} {xs : List V} (hb : H b = some (.tup xs)) (hz : xs.length ≤ sizeLine) : Rel3 K ⟨w.al, upd w.h b (.tup xs), w.pn⟩ H S ∧ Ex3 w ⟨w.al, upd w.h b (.tup xs), w.pn⟩ := by
  have sm : Same w.h (upd w.h b (.tup xs)) := fun a u e => by
    by_cases ha : a = b
    · subst ha
      have := r.sub a u e
      rw [hb] at this
      rw [upd_same]
      exact this
    · rw [upd_ne ha]
      exact e
  have ex : Ex3 w ⟨w.al, upd w.h b (.tup xs), w.pn⟩ := ⟨⟨⟨[], by simp⟩, sm⟩, rfl⟩
  refine ⟨⟨fun a u e => ?_, fun a u e => ?_, r.len, fun n a o e q => ?_, fun n a e q => ?_, r.nd, fun a u ha => ?_, r.pnd⟩, ex⟩
  · have e' : upd w.h b (.tup xs) a = some u := e
    by_cases ha : a = b
    · subst ha
      rw [upd_same] at e'
      rw [hb]
      exact e'
    · rw [upd_ne ha] at e'
      exact r.sub a u e'
  · have e' : upd w.h b (.tup xs) a = some u := e
    by_cases ha : a = b
    · subst ha
      rw [upd_same] at e'
      cases e'
      exact hz
    · rw [upd_ne ha] at e'
      exact r.sz a u e'
  · obtain ⟨h1, u, h2, h3⟩ := r.live n a o e q
    have ha : a ≠ b := fun z => by
      subst z
      rw [hb] at h2
      cases h2
      cases o with
      | dif od kxs kvs =>
        obtain ⟨h4, _⟩ := h3
        cases h4
      | dkf od kxs kvs =>
        obtain ⟨h4, _⟩ := h3
        cases h4
      | _ =>
        obtain ⟨_, h4, _⟩ := h3
        cases h4
    exact ⟨by show upd w.h b (.tup xs) a = none; rw [upd_ne ha]; exact h1, u, h2, h3.mono ex.toEx0⟩
  · obtain ⟨u, h1⟩ := r.dead n a e q
    exact ⟨u, sm a u h1⟩
  · obtain ⟨h1, h2, h3⟩ := r.pin a u ha
    have hab : a ≠ b := fun z => by
      subst z
      rw [hb] at h1
      cases h1
      exact (r.pnd.2 _ ha).elim
    exact ⟨h1, by show upd w.h b (.tup xs) a = none; rw [upd_ne hab]; exact h2, h3⟩
theorem Rel3.tups {K : PySem.W.Frag} {H : Hp} {S : S3} : ∀ {w : W3} {kvs : List (List Key × V)} {bs : List Addr}, Rel3 K w H S → KeysAt H kvs bs → ∃ h', Ex3 w ⟨w.al, h', w.pn⟩ ∧ Rel3 K ⟨w.al, h', w.pn⟩ H S ∧ DpAll K h' (bs.map V.ref) (kvs.map fun p => keyPd p.1)
  | w, _, _, r, .nil => ⟨w.h, ⟨⟨⟨[], by simp⟩, Same.refl _⟩, rfl⟩, r, .nil⟩
  | w, _, _, r, .cons (a := p) (b := b) h t => by
    obtain ⟨r1, e1⟩ := r.tup h.1 (by simpa using h.2)
    obtain ⟨h', e2, r2, d⟩ := Rel3.tups r1 t
    refine ⟨h', e1.trans e2, r2, .cons (dp_keyPd ?_) d⟩
    exact e2.h _ _ upd_same
def pairT : PyData → Option (List Key × PyData)
  | .tuple [k, v] => match keyT (.p k) with
    | some ks => some (ks, v)
    | none => none
  | _ => none
def pairsT : List PyData → Option (List (List Key × PyData))
  | [] => some []
  | d :: ds => match pairT d, pairsT ds with
    | some p, some ps => some (p :: ps)
    | _, _ => none
/-- dict(xs), the keys tuples -/
def tDictPT3 (te : TE3) : TE3 := fun env S Q => te env S fun x S1 => match lst3 S1 x with
  | some ds => (match pairsT ds with
    | some kvs => Q (.loc S1.length) (S1 ++ [some (.dic (mergeT [] kvs))])
    | none => False)
  | none => False
/-- sorted(d) -/
def tSortedT3 (te : TE3) : TN3 := fun env S Q => te env S fun x S1 => match dic3 S1 x with
  | some (_, kvs) => (PySem.W.AllAlike (kvs.map fun p => keyPd p.1) ∧ PySem.W.Sortable (kvs.map fun p => keyPd p.1) ∧ ∀ d ∈ kvs.map (fun p => keyPd p.1), d.depth ≤ 60) ∧ Q (sortD (kvs.map fun p => keyPd p.1)) S1
  | none => False
theorem pt_merge {K : PySem.W.Frag} {h : Hp} : ∀ {more : List (List Key × PyData)} {mxs kxs : List (List Key × V)} {kvs : List (List Key × PyData)}, Paired (KtR K h) mxs more → Paired (KtR K h) kxs kvs → Paired (KtR K h) (mergeTV kxs mxs) (mergeT kvs more)
  | _, _, _, _, .nil, s => s
  | _, _, _, _, .cons (a := p) (b := q) r rs, s => by
    have := pt_put (k := q.1) s r.2
    show Paired (KtR K h) (mergeTV (putK _ p.1 p.2) _) (mergeT (putE _ q.1 q.2) _)
    rw [show p.1 = q.1 from r.1]
    exact pt_merge rs this
theorem pairT_low {K : PySem.W.Frag} {w : W3} {H : Hp} {S : S3} {v : V} {d : PyData} {p : List Key × PyData} (hK : NoTK K) (r : Rel3 K w H S) (h1 : Dp K w.h v d) (h : pairT d = some p) : ∃ a b x, v = .ref a ∧ PairT K H (a, b) (p.1, x) ∧ Dp K w.h x p.2 := by
  unfold pairT at h
  split at h
  · rename_i k v'
    split at h
    · rename_i ks hk
      cases h
      cases h1 with
      | @tup a xs _ hs ha =>
        cases ha with
        | @cons y _ ys _ p1 ha =>
          cases ha with
          | @cons x _ zs _ p2 ha =>
            cases ha
            obtain ⟨b, rfl, hb⟩ := keyT_low (d := .p k) hK r p1 hk
            exact ⟨a, b, x, rfl, ⟨Same.sqT r.sub hs, hb⟩, p2⟩
    · cases h
  · cases h
theorem pairsT_low {K : PySem.W.Frag} {w : W3} {H : Hp} {S : S3} (hK : NoTK K) (r : Rel3 K w H S) : ∀ {ds : List PyData} {vs : List V} {kvs : List (List Key × PyData)}, DpAll K w.h vs ds → pairsT ds = some kvs →
    ∃ (ps : List (Addr × Addr)) (kxs : List (List Key × V)), vs = ps.map (fun p => V.ref p.1) ∧ Paired (PairT K H) ps kxs ∧ Paired (KtR K w.h) kxs kvs
  | [], _, _, .nil, e => by
    cases e
    exact ⟨[], [], rfl, .nil, .nil⟩
  | d :: ds, _, _, .cons p rs, e => by
    unfold pairsT at e
    split at e
    · rename_i q qs h1 h2
      cases e
      obtain ⟨a, b, x, rfl, g1, g2⟩ := pairT_low hK r p h1
      obtain ⟨ps, kxs, rfl, f1, f2⟩ := pairsT_low hK r rs h2
      exact ⟨(a, b) :: ps, (q.1, x) :: kxs, rfl, .cons g1 f1, .cons ⟨rfl, g2⟩ f2⟩
    · cases e
section
variable {X : Cx}
theorem qe_dictPT {e : Expr} {te : TE3} {p pos : Pos} (hK : NoTK X.K) (hcalm : X.calm = true) (hu : X.A.units + 64 < cLine) (hg : Gl X "dict") (hm : X.mg "dict" = none) (ha : QE X e te) (hs : starEach [e] X.env = (false, eval e X.env) :: starEach [] X.env := by rfl) (hpl : (backTo pos (starEach [] X.env)).any (·.1) = false := by rfl) :
    QE X (.Call (.Name "dict" p) [e] [] pos) (tDictPT3 te) := L2.PE.imp (pe_callTy (call_dictPT hcalm hu) hg hm (by decide +kernel) (pa_cons ha pa_nil hs) (by decide) (by decide) hs hpl) fun σ H R ⟨w, env, S, Q, r0, en, t, q⟩ => by
  refine ⟨w, env, S, _, r0, en, t, fun w1 v d H1 S1 e1 r1 p1 t1 => ?_⟩
  split at t1
  · rename_i ds h1
    obtain ⟨a, xs, rfl, hq, hd, hz⟩ := lst3_low r1 p1 h1
    split at t1
    · rename_i kvs h2
      obtain ⟨ps, kxs, rfl, f1, f2⟩ := pairsT_low hK r1 hd h2
      refine ⟨a, ps, kxs, rfl, hq, f1, fun p hn => ?_⟩
      obtain ⟨r2, e2⟩ := r1.push (u := .dT (mergeTV [] kxs)) (o := .dic (mergeT [] kvs)) hn ⟨_, rfl, pt_merge f2 .nil⟩
      refine q _ (.ref p) (.loc S1.length) _ _ (e1.trans e2) r2 ⟨p, ?_, rfl⟩ t1
      show (w1.al ++ [p])[S1.length]? = some p
      rw [← r1.len, List.getElem?_append_right (Nat.le_refl _)]
      simp
    · exact t1.elim
  · exact t1.elim
theorem pt_keys {K : PySem.W.Frag} {h : Hp} : ∀ {kxs : List (List Key × V)} {kvs : List (List Key × PyData)}, Paired (KtR K h) kxs kvs → (kxs.map fun p => keyPd p.1) = kvs.map fun p => keyPd p.1
  | _, _, .nil => rfl
  | _, _, .cons r rs => by rw [List.map_cons, List.map_cons, r.1, pt_keys rs]
theorem qn_sortedT {e : Expr} {te : TE3} {p pos : Pos} (hcalm : X.calm = true) (hu : X.A.units + 64 < cLine) (hg : Gl X "sorted") (hm : X.mg "sorted" = none) (ha : QE X e te) (hs : starEach [e] X.env = (false, eval e X.env) :: starEach [] X.env := by rfl) (hpl : (backTo pos (starEach [] X.env)).any (·.1) = false := by rfl) :
    QN X (.Call (.Name "sorted" p) [e] [] pos) (tSortedT3 te) := L2.PE.imp (pe_callB (cr_sortedT hcalm hu) hg hm (by decide +kernel) (pa_cons ha pa_nil hs) (by decide) (by decide) hs hpl) fun σ H R ⟨w, env, S, Q, r0, en, t, q⟩ => by
  refine ⟨w, env, S, _, r0, en, t, fun w1 v d H1 S1 e1 r1 p1 t1 => ?_⟩
  split at t1
  · rename_i n kvs h1
    obtain ⟨a, kxs, rfl, rfl, ha, hs', hH, hp⟩ := dic3_low r1 p1 h1
    obtain ⟨⟨c1, c2, c3⟩, t1⟩ := t1
    have ek := pt_keys hp
    refine ⟨a, kxs, rfl, .inl hH, by rw [ek]; exact c1, by rw [ek]; exact c2, by rw [ek]; exact c3, fun p bs hn hb hz => ?_⟩
    obtain ⟨h', e2, r2, dd⟩ := Rel3.tups r1 hb
    rw [ek] at dd ⊢
    have hlen := DpAll.length dd
    have hsnd : (((bs.map V.ref).zip (kvs.map fun p => keyPd p.1)).mergeSort (PySem.W.dataLe false Prod.snd)).map (·.2) = sortD (kvs.map fun p => keyPd p.1) := by
      have e := List.map_mergeSort (f := fun x : V × PyData => x.2) (r := PySem.W.dataLe false Prod.snd) (s := PySem.W.dataLe false id) (l := (bs.map V.ref).zip (kvs.map fun p => keyPd p.1)) (fun _ _ _ _ => rfl)
      unfold sortD
      rw [e, zip_snd hlen]
    refine q ⟨w1.al, h', w1.pn⟩ p _ (sortD (kvs.map fun p => keyPd p.1)) H1 S1 (e1.trans e2) r2 hn ?_ ?_ t1
    · rw [← hsnd]
      exact dp_unzip fun p hp => zip_dp dd p (List.mem_mergeSort.mp hp)
    · unfold sortD
      rw [List.length_mergeSort, ← ek, List.length_map]
      exact hz
  · exact t1.elim
end
/-! ### a, b = x, y where a comprehension reads a or b: by a tuple -/
theorem qs_parC {X : Cx} {i j : Nat} {tg a b : Expr} {ta : TA3} {pos pt2 : Pos} {k2} (ha : QA X [a, b] ta) (hg : QB X tg (.tup (.cons (.nm i) (.cons (.nm j) .nil)))) (hs : swapsWithSole [tg] (.Tuple [a, b] k2 pt2) pos.line X.env = pure false := by rfl)
    (hw : swappedStores [tg] (.Tuple [a, b] k2 pt2) X.env = pure none := by rfl) (h1 : (assignEach [tg] X.env).map (·.2) = [assign tg X.env] := by rfl) : QS X (.Assign [tg] (.Tuple [a, b] k2 pt2) pos) (tPr3 i j ta) :=
  (ps_asg (pe_tup ha) hg hs hw h1).imp fun D σ H ⟨w, env, S, D3, r, en, t, q⟩ => by
  refine ⟨w, env, S, _, r, en, t, fun w1 vs ds H1 S1 e1 r1 p1 t1 => ?_⟩
  have h2 : 2 ≤ sizeLine := by rw [sizeLine_eq]; decide
  match vs, ds, p1, t1 with
  | [v, u], [x, y], p1, t1 =>
    refine ⟨h2, fun p hn => ?_⟩
    obtain ⟨r2, e2⟩ := r1.frz (u := .tup [v, u]) hn h2
    unfold g2
    refine ⟨p, [v, u], rfl, .inl (.inl upd_same), rfl, ?_⟩
    unfold gs2
    refine ⟨v, [u], rfl, ?_⟩
    unfold gs2
    refine ⟨u, [], rfl, ?_⟩
    unfold gs2
    refine ⟨rfl, ?_⟩
    exact q.nx _ _ _ _ S1 (e1.trans e2) r2 (((en.mono (e1.trans e2)).set i (p1.1.mono e2)).set j (p1.2.1.mono e2)) t1
  | [], [x, y], p1, _ => exact p1.elim
  | [_], [x, y], p1, _ => exact p1.2.elim
  | _ :: _ :: _ :: _, [x, y], p1, _ => exact p1.2.2.elim
end L3

/-! ### enumerate(zip(a, b)) of two tuples: enumerate keeps zip's pair, so zip finds its tuple held -/
namespace L3
open PySem PySem.Spec PyProof.Rows L2
/-- a zip with any marker of what it gave out -/
abbrev ZipM (h : Heap) (z TI TO : Addr) (mk : Value) (f : Bool) : Prop :=
  h.get? z = some { cls := .type "zip", dict := none, data := .fields #[mk, .bool f, .bool false, .ref TI, .ref TO], slots := #[] }
def MkOk (mk : Value) : Prop := mk = .none ∨ ∃ T : Addr, mk = rawInt (T : Nat)
section
variable {prog : Program} {w : World} {A : Around} {E : Value → Shared → Prop} {s : Shared}
theorem alive_any {a : Addr} {Q : Option Obj → Shared → Prop} (h : Q (s.heap.get? a) s) : wpAny (model prog w) A (loadIfAlive a) Q E s :=
  fun _ _ _ => h
theorem owned_any {z TI TO : Addr} {mk : Value} {f : Bool} {Q : Bool → Shared → Prop} (hm : MkOk mk) (hz : ZipM s.heap z TI TO mk f)
    (h1 : Q true s) (h2 : ∀ h' f', ZipM h' z TI TO mk f' → Heap.SameBut z s.heap h' → Q false { s with heap := h' }) : wpAny (model prog w) A (Builtin.SmallTypes.ownedTupleIsFree (.ref z)) Q E s := by
  unfold Builtin.SmallTypes.ownedTupleIsFree
  rcases hm with rfl | ⟨T, rfl⟩
  · refine wpAny_bind (wpAny_field hz rfl (x := .none) rfl (wpAny_pure ?_))
    exact h1
  · refine wpAny_bind (wpAny_field hz rfl (x := rawInt (T : Nat)) rfl ?_)
    show wpAny _ _ (loadIfAlive ((T : Int).toNat) >>= _) _ _ _
    rw [Int.toNat_natCast]
    refine wpAny_bind (alive_any ?_)
    cases hT : s.heap.get? T with
    | none =>
      simp only [Option.isNone_none, if_true]
      exact wpAny_pure h1
    | some oT =>
      simp only [Option.isNone_some, Bool.false_eq_true, if_false]
      refine wpAny_bind (wpAny_field hz rfl (x := .bool f) rfl ?_)
      cases f with
      | true =>
        rw [if_neg (show ¬ ((Value.bool true != Value.bool true) = true) from Bool.false_ne_true)]
        exact wpAny_pure (h2 s.heap true hz (Heap.SameBut.refl _ _))
      | false =>
        rw [if_pos (show (Value.bool false != Value.bool true) = true from rfl)]
        exact wpAny_bind (wpAny_setField_rec hz (by simp) fun h₁ hz₁ hs₁ => wpAny_pure (h2 h₁ true hz₁ hs₁))
theorem zipM_item {z TI TO i1 i2 l1 l2 : Addr} {mk : Value} {f : Bool} {k1 k2 : Nat} {xs ys : Array Value} {x y a b : Value} {Q : Value → Shared → Prop} (D : ZipApart z TI TO i1 i2 l1 l2) (hm : MkOk mk)
    (hz : ZipM s.heap z TI TO mk f) (hTI : IsPair s.heap TI (.ref i1) (.ref i2)) (hTO : IsPair s.heap TO a b)
    (h1 : s.heap.IsTupleIter i1 l1 k1) (h2 : s.heap.IsTupleIter i2 l2 k2) (hl1 : s.heap.IsTuple l1 xs) (hl2 : s.heap.IsTuple l2 ys) (hx : xs[k1]? = some x) (hy : ys[k2]? = some y)
    (hQ : ∀ h' mk' f' a' b', MkOk mk' → ZipM h' z TI TO mk' f' → IsPair h' TO a' b' → h'.IsTupleIter i1 l1 (k1 + 1) → h'.IsTupleIter i2 l2 (k2 + 1) → IsPair h' s.heap.objs.size x y → h'.objs.size = s.heap.objs.size + 1 →
      (∀ c o, c ≠ z → c ≠ TO → c ≠ i1 → c ≠ i2 → s.heap.get? c = some o → h'.get? c = some o) → Q (.ref s.heap.objs.size) { s with heap := h' }) :
    wpAny (model prog w) A (Builtin.«zip.__next__» ⟨[.ref z], []⟩) (fun fin s' => ∃ v, fin = .done (.ret v) ∧ Q v s') E s := by
  show wpAny _ _ (field (.ref z) 2 >>= _) _ _ _
  refine wpAny_bind (wpAny_field hz rfl (x := .bool false) rfl ?_)
  show wpAny _ _ (field (.ref z) 3 >>= _) _ _ _
  refine wpAny_bind (wpAny_field hz rfl (x := .ref TI) rfl ?_)
  refine wpAny_bind (wpAny_seqItems hTI rfl ?_)
  show wpAny _ _ (Builtin.SmallTypes.ownedTupleIsFree (.ref z) >>= _) _ _ _
  refine wpAny_bind (owned_any hm hz ?_ ?_)
  · simp only [if_true]
    refine wpAny_bind (wpAny_rule ?_)
    refine wpAny_bind (wpAny_field hz rfl (x := .ref TO) rfl ?_)
    refine wpAny_bind (wpAny_setField_rec hz (by simp) fun h₁ hz₁ hs₁ => ?_)
    replace hz₁ : ZipM h₁ z TI TO .ellipsis f := hz₁
    refine wpAny_bind ?_
    simp only [List.zipIdx_cons, List.zipIdx_nil, List.forIn_cons, List.forIn_nil]
    refine wpAny_bind (wpAny_bind (wpAny_onRaise ?_))
    show wpAny _ _ (Builtin.SmallTypes.nextOf (.ref i1) >>= _) _ _ _
    refine wpAny_bind (RZ.nextOf_tuple_item (h1.extBut hs₁.extBut D.i1z) (hl1.extBut hs₁.extBut D.l1z) hx fun h₂ h1₂ hs₂ => wpAny_pure ?_)
    have hTO₂ : IsPair h₂ TO a b := hs₂.extBut _ _ D.TOi1 (hs₁.extBut _ _ D.TOz hTO)
    refine wpAny_bind (wpAny_seqItems hTO₂ rfl ?_)
    refine wpAny_bind (wpAny_updateSeq_pair hTO₂ fun h₃ hTO₃ hs₃ => ?_)
    replace hTO₃ : IsPair h₃ TO x b := hTO₃
    refine wpAny_bind (wpAny_letGo (wpAny_pure ?_))
    refine wpAny_bind (wpAny_bind (wpAny_onRaise ?_))
    show wpAny _ _ (Builtin.SmallTypes.nextOf (.ref i2) >>= _) _ _ _
    refine wpAny_bind (RZ.nextOf_tuple_item (((h2.extBut hs₁.extBut D.i2z).extBut hs₂.extBut D.i12.symm).extBut hs₃.extBut D.TOi2.symm)
      (((hl2.extBut hs₁.extBut D.l2z).extBut hs₂.extBut D.l2i1).extBut hs₃.extBut D.l2TO) hy fun h₄ h2₄ hs₄ => wpAny_pure ?_)
    have hTO₄ : IsPair h₄ TO x b := hs₄.extBut _ _ D.TOi2 hTO₃
    refine wpAny_bind (wpAny_seqItems hTO₄ rfl ?_)
    refine wpAny_bind (wpAny_updateSeq_pair hTO₄ fun h₅ hTO₅ hs₅ => ?_)
    replace hTO₅ : IsPair h₅ TO x y := hTO₅
    refine wpAny_bind (wpAny_letGo (wpAny_pure (wpAny_pure ?_)))
    refine wpAny_bind (wpAny_seqItems hTO₅ rfl ?_)
    refine wpAny_bind (wpAny_newTuple ?_)
    have hsz : h₅.objs.size = s.heap.objs.size := by rw [hs₅.1, hs₄.1, hs₃.1, hs₂.1, hs₁.1]
    have hz₅ : ZipM h₅ z TI TO .ellipsis f := hs₅.extBut _ _ D.TOz.symm (hs₄.extBut _ _ D.i2z.symm (hs₃.extBut _ _ D.TOz.symm (hs₂.extBut _ _ D.i1z.symm hz₁)))
    have hk₅ : ∀ c o, c ≠ z → c ≠ TO → c ≠ i1 → c ≠ i2 → s.heap.get? c = some o → h₅.get? c = some o := fun c o c1 c2 c3 c4 e =>
      hs₅.extBut _ _ c2 (hs₄.extBut _ _ c4 (hs₃.extBut _ _ c2 (hs₂.extBut _ _ c3 (hs₁.extBut _ _ c1 e))))
    have h1₅ : h₅.IsTupleIter i1 l1 (k1 + 1) := ((h1₂.extBut hs₃.extBut D.TOi1.symm).extBut hs₄.extBut D.i12).extBut hs₅.extBut D.TOi1.symm
    have h2₅ : h₅.IsTupleIter i2 l2 (k2 + 1) := h2₄.extBut hs₅.extBut D.TOi2.symm
    have hzlt : z < h₅.objs.size := Heap.lt_size hz₅
    show wpAny _ _ (Builtin.SmallTypes.ownedTupleHandOut (.ref z) (.ref h₅.objs.size) >>= _) _ _ _
    refine wpAny_bind ?_
    unfold Builtin.SmallTypes.ownedTupleHandOut
    have hz₆ : ZipM (h₅.push { cls := .type "tuple", data := .seq #[x, y] }) z TI TO .ellipsis f := Heap.get?_push_of_some _ hz₅
    refine wpAny_bind (wpAny_setField_rec hz₆ (by simp) fun h₇ hz₇ hs₇ => ?_)
    replace hz₇ : ZipM h₇ z TI TO (rawInt h₅.objs.size) f := hz₇
    refine wpAny_setField_rec hz₇ (by simp) fun h₈ hz₈ hs₈ => ?_
    replace hz₈ : ZipM h₈ z TI TO (rawInt h₅.objs.size) false := hz₈
    have up : ∀ c o, c ≠ z → h₅.get? c = some o → h₈.get? c = some o := fun c o c1 e => hs₈.extBut _ _ c1 (hs₇.extBut _ _ c1 (Heap.get?_push_of_some _ e))
    have hT₈ : IsPair h₈ h₅.objs.size x y := hs₈.extBut _ _ (Nat.ne_of_gt hzlt) (hs₇.extBut _ _ (Nat.ne_of_gt hzlt) (Heap.get?_push_size _ rfl))
    have hz8 : h₈.objs.size = h₅.objs.size + 1 := by rw [hs₈.1, hs₇.1, Heap.size_push]
    rw [hsz] at hz₈ hT₈ hz8
    refine wpAny_pure ⟨_, rfl, ?_⟩
    show Q (.ref h₅.objs.size) _
    rw [hsz]
    exact hQ h₈ _ _ x y (.inr ⟨_, rfl⟩) hz₈ (up _ _ D.TOz hTO₅) (h1₅.at fun o e => up _ o D.i1z e) (h2₅.at fun o e => up _ o D.i2z e) hT₈ hz8 fun c o c1 c2 c3 c4 e => up c o c1 (hk₅ c o c1 c2 c3 c4 e)
  · intro h₁ f' hz₁ hs₁
    simp only [Bool.false_eq_true, if_false]
    refine wpAny_bind ?_
    rw [← Array.forIn_toList]
    simp only [List.forIn_cons, List.forIn_nil]
    refine wpAny_bind (wpAny_bind (wpAny_holding ?_))
    show wpAny _ _ (Builtin.SmallTypes.nextOf (.ref i1) >>= _) _ _ _
    refine wpAny_bind (RZ.nextOf_tuple_item (s := { s with heap := h₁ }) (h1.extBut hs₁.extBut D.i1z) (hl1.extBut hs₁.extBut D.l1z) hx fun h₂ h1₂ hs₂ => wpAny_pure ?_)
    refine wpAny_pure ?_
    refine wpAny_bind (wpAny_bind (wpAny_holding ?_))
    show wpAny _ _ (Builtin.SmallTypes.nextOf (.ref i2) >>= _) _ _ _
    refine wpAny_bind (RZ.nextOf_tuple_item (s := { s with heap := h₂ }) ((h2.extBut hs₁.extBut D.i2z).extBut hs₂.extBut D.i12.symm) ((hl2.extBut hs₁.extBut D.l2z).extBut hs₂.extBut D.l2i1) hy fun h₃ h2₃ hs₃ => wpAny_pure ?_)
    refine wpAny_pure (wpAny_pure ?_)
    show wpAny _ _ (newTuple [x, y] >>= _) _ _ _
    refine wpAny_bind (wpAny_newTuple ?_)
    have hsz : h₃.objs.size = s.heap.objs.size := by rw [hs₃.1, hs₂.1, hs₁.1]
    have hz₃ : ZipM h₃ z TI TO mk f' := hs₃.extBut _ _ D.i2z.symm (hs₂.extBut _ _ D.i1z.symm hz₁)
    have hk : ∀ c o, c ≠ z → c ≠ i1 → c ≠ i2 → s.heap.get? c = some o → h₃.get? c = some o := fun c o c1 c2 c3 e => hs₃.extBut _ _ c3 (hs₂.extBut _ _ c2 (hs₁.extBut _ _ c1 e))
    have h1₃ : h₃.IsTupleIter i1 l1 (k1 + 1) := h1₂.extBut hs₃.extBut D.i12
    refine wpAny_pure ⟨_, rfl, ?_⟩
    show Q (.ref h₃.objs.size) _
    have hp : IsPair (h₃.push { cls := .type "tuple", data := .seq #[x, y] }) h₃.objs.size x y := Heap.get?_push_size _ rfl
    have hz4 : (h₃.push { cls := .type "tuple", data := .seq #[x, y] }).objs.size = h₃.objs.size + 1 := Heap.size_push ..
    rw [hsz] at hp hz4 ⊢
    exact hQ _ mk f' a b hm (Heap.get?_push_of_some _ hz₃) (Heap.get?_push_of_some _ (hk _ _ D.TOz D.TOi1 D.TOi2 hTO)) (h1₃.at fun o e => Heap.get?_push_of_some _ e) (h2₃.at fun o e => Heap.get?_push_of_some _ e) hp hz4 fun c o c1 _ c2 c3 e => Heap.get?_push_of_some _ (hk c o c1 c2 c3 e)
theorem zipM_end {z TI TO i1 i2 l1 l2 : Addr} {mk : Value} {f : Bool} {k1 k2 : Nat} {xs ys : Array Value} {a b : Value} {Q : Fin → Shared → Prop} (hh : A.handled = none) (D : ZipApart z TI TO i1 i2 l1 l2) (hm : MkOk mk)
    (hz : ZipM s.heap z TI TO mk f) (hTI : IsPair s.heap TI (.ref i1) (.ref i2)) (hTO : IsPair s.heap TO a b)
    (h1 : s.heap.IsTupleIter i1 l1 k1) (h2 : s.heap.IsTupleIter i2 l2 k2) (hl1 : s.heap.IsTuple l1 xs) (hl2 : s.heap.IsTuple l2 ys) (hend : xs[k1]? = none ∨ ys[k2]? = none)
    (hE : ∀ h' e, (∀ c o, c ≠ z → c ≠ TO → c ≠ i1 → c ≠ i2 → s.heap.get? c = some o → h'.get? c = some o) → (∃ o, h'.get? e = some o ∧ o.cls = .type "StopIteration") → E (.ref e) { s with heap := h' }) :
    wpAny (model prog w) A (Builtin.«zip.__next__» ⟨[.ref z], []⟩) Q E s := by
  show wpAny _ _ (field (.ref z) 2 >>= _) _ _ _
  refine wpAny_bind (wpAny_field hz rfl (x := .bool false) rfl ?_)
  show wpAny _ _ (field (.ref z) 3 >>= _) _ _ _
  refine wpAny_bind (wpAny_field hz rfl (x := .ref TI) rfl ?_)
  refine wpAny_bind (wpAny_seqItems hTI rfl ?_)
  show wpAny _ _ (Builtin.SmallTypes.ownedTupleIsFree (.ref z) >>= _) _ _ _
  refine wpAny_bind (owned_any hm hz ?_ ?_)
  · simp only [if_true]
    refine wpAny_bind (wpAny_rule ?_)
    refine wpAny_bind (wpAny_field hz rfl (x := .ref TO) rfl ?_)
    refine wpAny_bind (wpAny_setField_rec hz (by simp) fun h₁ hz₁ hs₁ => ?_)
    replace hz₁ : ZipM h₁ z TI TO .ellipsis f := hz₁
    refine wpAny_bind ?_
    simp only [List.zipIdx_cons, List.zipIdx_nil, List.forIn_cons, List.forIn_nil]
    refine wpAny_bind (wpAny_bind (wpAny_onRaise ?_))
    show wpAny _ _ (Builtin.SmallTypes.nextOf (.ref i1) >>= _) _ _ _
    cases hx : xs[k1]? with
    | none =>
      refine wpAny_bind (RZ.nextOf_tuple_end hh (h1.extBut hs₁.extBut D.i1z) (hl1.extBut hs₁.extBut D.l1z) hx fun h₂ e hs₂ he => ?_)
      obtain ⟨oe, hoe, hce⟩ := he
      have hz₂ : ZipM h₂ z TI TO .ellipsis f := hs₂ _ _ D.i1z.symm hz₁
      have hez : e ≠ z := fun x => by subst x; rw [hz₂] at hoe; cases hoe; simp at hce
      refine wpAny_setField_rec hz₂ (by simp) fun h₃ _ hs₃ => hE h₃ e (fun c o c1 _ c3 _ x => hs₃.extBut _ _ c1 (hs₂ _ _ c3 (hs₁.extBut _ _ c1 x))) ⟨oe, hs₃.extBut _ _ hez hoe, hce⟩
    | some x =>
      have hy : ys[k2]? = none := by rcases hend with h | h; rw [hx] at h; cases h; exact h
      refine wpAny_bind (RZ.nextOf_tuple_item (h1.extBut hs₁.extBut D.i1z) (hl1.extBut hs₁.extBut D.l1z) hx fun h₂ h1₂ hs₂ => wpAny_pure ?_)
      have hTO₂ : IsPair h₂ TO a b := hs₂.extBut _ _ D.TOi1 (hs₁.extBut _ _ D.TOz hTO)
      refine wpAny_bind (wpAny_seqItems hTO₂ rfl ?_)
      refine wpAny_bind (wpAny_updateSeq_pair hTO₂ fun h₃ hTO₃ hs₃ => ?_)
      refine wpAny_bind (wpAny_letGo (wpAny_pure ?_))
      refine wpAny_bind (wpAny_bind (wpAny_onRaise ?_))
      show wpAny _ _ (Builtin.SmallTypes.nextOf (.ref i2) >>= _) _ _ _
      refine wpAny_bind (RZ.nextOf_tuple_end hh (((h2.extBut hs₁.extBut D.i2z).extBut hs₂.extBut D.i12.symm).extBut hs₃.extBut D.TOi2.symm)
        (((hl2.extBut hs₁.extBut D.l2z).extBut hs₂.extBut D.l2i1).extBut hs₃.extBut D.l2TO) hy fun h₄ e hs₄ he => ?_)
      obtain ⟨oe, hoe, hce⟩ := he
      have hz₄ : ZipM h₄ z TI TO .ellipsis f := hs₄ _ _ D.i2z.symm (hs₃.extBut _ _ D.TOz.symm (hs₂.extBut _ _ D.i1z.symm hz₁))
      have hez : e ≠ z := fun x => by subst x; rw [hz₄] at hoe; cases hoe; simp at hce
      refine wpAny_setField_rec hz₄ (by simp) fun h₅ _ hs₅ => hE h₅ e (fun c o c1 c2 c3 c4 x => hs₅.extBut _ _ c1 (hs₄ _ _ c4 (hs₃.extBut _ _ c2 (hs₂.extBut _ _ c3 (hs₁.extBut _ _ c1 x))))) ⟨oe, hs₅.extBut _ _ hez hoe, hce⟩
  · intro h₁ f' hz₁ hs₁
    simp only [Bool.false_eq_true, if_false]
    refine wpAny_bind ?_
    rw [← Array.forIn_toList]
    simp only [List.forIn_cons, List.forIn_nil]
    refine wpAny_bind (wpAny_bind (wpAny_holding ?_))
    show wpAny _ _ (Builtin.SmallTypes.nextOf (.ref i1) >>= _) _ _ _
    cases hx : xs[k1]? with
    | none =>
      refine wpAny_bind (RZ.nextOf_tuple_end (s := { s with heap := h₁ }) hh (h1.extBut hs₁.extBut D.i1z) (hl1.extBut hs₁.extBut D.l1z) hx fun h₂ e hs₂ he => ?_)
      exact hE h₂ e (fun c o c1 _ c2 _ x => hs₂ _ _ c2 (hs₁.extBut _ _ c1 x)) he
    | some x =>
      have hy : ys[k2]? = none := by rcases hend with h | h; rw [hx] at h; cases h; exact h
      refine wpAny_bind (RZ.nextOf_tuple_item (s := { s with heap := h₁ }) (h1.extBut hs₁.extBut D.i1z) (hl1.extBut hs₁.extBut D.l1z) hx fun h₂ h1₂ hs₂ => wpAny_pure ?_)
      refine wpAny_pure ?_
      refine wpAny_bind (wpAny_bind (wpAny_holding ?_))
      show wpAny _ _ (Builtin.SmallTypes.nextOf (.ref i2) >>= _) _ _ _
      refine wpAny_bind (RZ.nextOf_tuple_end (s := { s with heap := h₂ }) hh ((h2.extBut hs₁.extBut D.i2z).extBut hs₂.extBut D.i12.symm) ((hl2.extBut hs₁.extBut D.l2z).extBut hs₂.extBut D.l2i1) hy fun h₃ e hs₃ he => ?_)
      exact hE h₃ e (fun c o c1 _ c2 c3 x => hs₃ _ _ c3 (hs₂.extBut _ _ c2 (hs₁.extBut _ _ c1 x))) he
end
section
variable {prog : Program} {w : World} {A : Around} {E : Value → Shared → Prop} {s : Shared}
theorem nextOf_zip {z : Addr} {Q : Value → Shared → Prop} (hT : s.TypeIs (.ref z) "zip") (h : wpAny (model prog w) A.in1 (Builtin.«zip.__next__» ⟨[.ref z], []⟩) (fun fin s' => ∃ v, fin = .done (.ret v) ∧ Q v s') E s) :
    wpAny (model prog w) A (Builtin.SmallTypes.nextOf (.ref z)) Q E s := by
  unfold Builtin.SmallTypes.nextOf
  refine wpAny_bind (wpAny_callSpecial?_slot (name := Str.ofString "__next__") hT F.slot_zip_next
    (wpAny_call_entry F.slot_zip_next hT F.entry_zip_next (wpAny_mono h (fun fin s' q => ?_) fun _ _ q => q) (F.args_zip_next_1 _)))
  obtain ⟨v, rfl, q⟩ := q
  exact ⟨v, rfl, wpAny_pure q⟩
end
section
variable {prog : Program} {w : World} {A : Around} {E : Value → Shared → Prop} {s : Shared}
/-- enumerate's step over an iterator that gives a new object of its own -/
theorem enum_item_of {e it : Addr} {i : Nat} {R : Value → Heap → Prop} {old : Value} {Q : Option Value → Shared → Prop}
    (he : IsEnum s.heap e it i old)
    (hd : ∀ (Q : Value → Shared → Prop) (E : Value → Shared → Prop), (∀ x h', IsEnum h' e it i old → R x h' → Q x { s with heap := h' }) → wpAny (model prog w) A.in1 (Builtin.SmallTypes.nextOf (.ref it)) Q E s)
    (hQ : ∀ x h₁ h', R x h₁ → e < h₁.objs.size → IsEnumOut h' e it ((i : Int) + 1) x h₁.objs.size →
      h'.get? h₁.objs.size = some { cls := .type "tuple", data := .seq #[.int i s.toks, x] } → h'.objs.size = h₁.objs.size + 1 →
      (∀ b o, b ≠ e → h₁.get? b = some o → h'.get? b = some o) → Q (some (.ref h₁.objs.size)) { s with heap := h', toks := s.toks + 1 }) :
    wpAny (model prog w) A (pyNext (.ref e)) Q E s := by
  have hT : s.TypeIs (.ref e) "enumerate" := ⟨_, he, rfl⟩
  unfold pyNext
  refine wpAny_bind (wpAny_attempt (wpAny_callSpecial?_slot (name := Str.ofString "__next__") hT F.slot_enumerate_next
    (wpAny_call_entry F.slot_enumerate_next hT F.entry_enumerate_next ?_ (F.args_enumerate_next_1 _))))
  obtain ⟨hp, g, d, tk, os⟩ := s
  show wpAny _ _ (field (.ref e) 2 >>= _) _ _ _
  refine wpAny_bind (wpAny_field he rfl (x := .ref it) rfl ?_)
  refine wpAny_bind (hd _ _ fun x h₁ he₁ hR => ?_)
  show wpAny _ _ (field (.ref e) 3 >>= _) _ _ ⟨h₁, g, d, tk, os⟩
  refine wpAny_bind (wpAny_field he₁ rfl (x := rawInt i) rfl ?_)
  show wpAny _ _ (field (.ref e) 4 >>= _) _ _ ⟨h₁, g, d, tk, os⟩
  refine wpAny_bind (wpAny_field he₁ rfl (x := .none) rfl ?_)
  show wpAny _ _ (mkInt i >>= _) _ _ ⟨h₁, g, d, tk, os⟩
  refine wpAny_bind (wpAny_mkInt ?_)
  show wpAny _ _ (setField (.ref e) 3 (rawInt ((i : Int) + 1)) >>= _) _ _ ⟨h₁, g, d, tk + 1, os⟩
  refine wpAny_bind (wpAny_setField_rec he₁ (by simp) fun h₂ he₂ hs₂ => ?_)
  replace hs₂ : Heap.SameBut e h₁ h₂ := hs₂
  replace he₂ : IsEnum h₂ e it ((i : Int) + 1) old := he₂
  show wpAny _ _ (setField (.ref e) 4 .none >>= _) _ _ ⟨h₂, g, d, tk + 1, os⟩
  refine wpAny_bind (wpAny_setField_rec he₂ (by simp) fun h₃ he₃ hs₃ => ?_)
  replace hs₃ : Heap.SameBut e h₂ h₃ := hs₃
  replace he₃ : IsEnum h₃ e it ((i : Int) + 1) old := he₃
  show wpAny _ _ (newTuple [.int i tk, x] >>= _) _ _ ⟨h₃, g, d, tk + 1, os⟩
  refine wpAny_bind (wpAny_newTuple ?_)
  have he₄ : IsEnum (h₃.push { cls := .type "tuple", data := .seq #[.int i tk, x] }) e it ((i : Int) + 1) old := Heap.get?_push_of_some _ he₃
  generalize hh₄ : h₃.push { cls := .type "tuple", data := .seq #[.int i tk, x] } = h₄ at he₄
  have hsz : h₃.objs.size = h₁.objs.size := by rw [hs₃.1, hs₂.1]
  have hel : e < h₁.objs.size := Heap.lt_size he₁
  have ht₄ : h₄.get? h₁.objs.size = some { cls := .type "tuple", data := .seq #[.int i tk, x] } := by rw [← hh₄, ← hsz]; exact Heap.get?_push_size _ rfl
  have hz₄ : h₄.objs.size = h₁.objs.size + 1 := by rw [← hh₄, Heap.size_push, hsz]
  have hk₄ : ∀ b o, b ≠ e → h₁.get? b = some o → h₄.get? b = some o := fun b o hbe hb => by
    rw [← hh₄]; exact Heap.get?_push_of_some _ (hs₃.extBut b o hbe (hs₂.extBut b o hbe hb))
  show wpAny _ _ (Builtin.SmallTypes.ownedTupleIsFree (.ref e) >>= _) _ _ ⟨h₄, g, d, tk + 1, os⟩
  rw [hsz]
  refine wpAny_bind ?_
  · unfold Builtin.SmallTypes.ownedTupleIsFree
    refine wpAny_bind (wpAny_field he₄ rfl (x := .none) rfl (wpAny_pure ?_))
    simp only [if_true]
    refine wpAny_bind (wpAny_rule ?_)
    refine wpAny_bind (wpAny_field he₄ rfl (x := old) rfl ?_)
    refine wpAny_bind (wpAny_setField_rec he₄ (by simp) fun h₅ he₅ hs₅ => ?_)
    replace hs₅ : Heap.SameBut e h₄ h₅ := hs₅
    replace he₅ : IsEnum h₅ e it ((i : Int) + 1) x := he₅
    show wpAny _ _ (Builtin.SmallTypes.ownedTupleHandOut (.ref e) (.ref h₁.objs.size) >>= _) _ _ ⟨h₅, g, d, tk + 1, os⟩
    refine wpAny_bind ?_
    · unfold Builtin.SmallTypes.ownedTupleHandOut
      refine wpAny_bind (wpAny_setField_rec he₅ (by simp) fun h₆ he₆ hs₆ => ?_)
      replace hs₆ : Heap.SameBut e h₅ h₆ := hs₆
      replace he₆ : IsEnumOut h₆ e it ((i : Int) + 1) x h₁.objs.size := he₆
      refine wpAny_setField_rec he₆ (by simp) fun h₇ he₇ hs₇ => ?_
      replace hs₇ : Heap.SameBut e h₆ h₇ := hs₇
      replace he₇ : IsEnumOut h₇ e it ((i : Int) + 1) x h₁.objs.size := he₇
      refine wpAny_bind (wpAny_letGo (wpAny_pure ⟨_, rfl, wpAny_pure (hQ x h₁ h₇ hR hel he₇ ?_ ?_ ?_)⟩))
      · exact hs₇.extBut _ _ (Nat.ne_of_gt hel) (hs₆.extBut _ _ (Nat.ne_of_gt hel) (hs₅.extBut _ _ (Nat.ne_of_gt hel) ht₄))
      · rw [hs₇.1, hs₆.1, hs₅.1, hz₄]
      · exact fun b o hbe hb => hs₇.extBut b o hbe (hs₆.extBut b o hbe (hs₅.extBut b o hbe (hk₄ b o hbe hb)))
theorem enum_end_zip {e it : Addr} {fp : List Addr} {i : Int} {old : Value} {Q : Option Value → Shared → Prop} (he : IsEnum s.heap e it i old)
    (hd : ∀ (Q : Value → Shared → Prop) (E : Value → Shared → Prop), (∀ h' e, (∀ c o, c ∉ fp → s.heap.get? c = some o → h'.get? c = some o) → (∃ o, h'.get? e = some o ∧ o.cls = .type "StopIteration") → E (.ref e) { s with heap := h' }) → wpAny (model prog w) A.in1 (Builtin.SmallTypes.nextOf (.ref it)) Q E s)
    (hQ : ∀ h', (∀ c o, c ∉ fp → s.heap.get? c = some o → h'.get? c = some o) → Q none { s with heap := h' }) : wpAny (model prog w) A (pyNext (.ref e)) Q E s := by
  have hT : s.TypeIs (.ref e) "enumerate" := ⟨_, he, rfl⟩
  unfold pyNext
  refine wpAny_bind (wpAny_attempt (wpAny_callSpecial?_slot (name := Str.ofString "__next__") hT F.slot_enumerate_next
    (wpAny_call_entry F.slot_enumerate_next hT F.entry_enumerate_next ?_ (F.args_enumerate_next_1 _))))
  show wpAny _ _ (field (.ref e) 2 >>= _) _ _ _
  refine wpAny_bind (wpAny_field he rfl (x := .ref it) rfl ?_)
  refine wpAny_bind (hd _ _ fun h' x he' hx' => ?_)
  obtain ⟨o, ho, hc⟩ := hx'
  refine wpAny_bind (wpAny_isInstance (T := "StopIteration") (b := true) ⟨o, ho, hc⟩ isSubtype_stop ?_)
  exact wpAny_pure (hQ _ he')
end
/-- the tuples at a and b at each turn, the items in a new pair within a new pair -/
def IteZ (K : PySem.W.Frag) (a b : Addr) : It :=
  ⟨fun i H => ∃ (xs ys : List V) (x y : V), SqT K H a xs ∧ SqT K H b ys ∧ xs[i]? = some x ∧ ys[i]? = some y,
    fun i H v H' => ∃ T U x y, v = .ref U ∧ H T = none ∧ H U = none ∧ U ≠ T ∧ H' = upd (upd H T (.tup [x, y])) U (.tup [.int (i : Nat), .ref T]) ∧ (∀ xs, SqT K H a xs → xs[i]? = some x) ∧ ∀ ys, SqT K H b ys → ys[i]? = some y,
    fun i H => ∃ xs ys : List V, SqT K H a xs ∧ SqT K H b ys ∧ (xs.length ≤ i ∨ ys.length ≤ i)⟩
theorem turn_enumZ {P : Program} {w : World} {K : PySem.W.Frag} {elts : List Expr} {kk : Nat} {tpos : Pos} {a b z TI TO i1 i2 : Addr} (e : Addr) (D : ZipApart z TI TO i1 i2 a b) :
    Turn P w K (.Tuple elts kk tpos) (IteZ K a b) [e, z, TI, TO, i1, i2] e (fun i h => (∃ old, IsEnum h e z ((i : Nat) : Int) old) ∧ (∃ mk f, MkOk mk ∧ ZipM h z TI TO mk f) ∧ IsPair h TI (.ref i1) (.ref i2) ∧ (∃ x y, IsPair h TO x y) ∧ h.IsTupleIter i1 a i ∧ h.IsTupleIter i2 b i ∧ e ∉ [z, TI, TO, i1, i2]) where
  mem := by simp
  obj := fun i h st c hc => by
    obtain ⟨⟨old, he⟩, ⟨mk, f, hm, hz⟩, hTI, ⟨x, y, hTO⟩, ⟨o1, e1, _, d1⟩, ⟨o2, e2, _, d2⟩, _⟩ := st
    have e' : c = e ∨ c = z ∨ c = TI ∨ c = TO ∨ c = i1 ∨ c = i2 := by simpa using hc
    rcases e' with q | q | q | q | q | q
    · rw [q]; exact ⟨_, he, fun v q => nomatch q⟩
    · rw [q]; exact ⟨_, hz, fun v q => nomatch q⟩
    · rw [q]; exact ⟨_, hTI, fun v q => nomatch q⟩
    · rw [q]; exact ⟨_, hTO, fun v q => nomatch q⟩
    · rw [q]; exact ⟨o1, e1, fun v q => by rw [d1] at q; cases q⟩
    · rw [q]; exact ⟨o2, e2, fun v q => by rw [d2] at q; cases q⟩
  keep := fun i h h' st k => by
    obtain ⟨⟨old, he⟩, ⟨mk, f, hm, hz⟩, hTI, ⟨x, y, hTO⟩, h1, h2, hn⟩ := st
    exact ⟨⟨old, k e (by simp) _ he⟩, ⟨mk, f, hm, k z (by simp) _ hz⟩, k TI (by simp) _ hTI, ⟨x, y, k TO (by simp) _ hTO⟩, h1.at fun o q => k i1 (by simp) o q, h2.at fun o q => k i2 (by simp) o q, hn⟩
  item := by
    intro X hP hw hK hc i pins s σ H E I hf st hg
    subst hP hw hK
    obtain ⟨⟨old, he⟩, ⟨mk, f, hm, hz⟩, hTI, ⟨x0, y0, hTO⟩, h1, h2, hn⟩ := st
    have hn' : e ≠ z ∧ e ≠ TI ∧ e ≠ TO ∧ e ≠ i1 ∧ e ≠ i2 := by simpa using hn
    obtain ⟨nz, nTI, nTO, n1, n2⟩ := hn'
    obtain ⟨xs, ys, x, y, hqx, hqy, hx, hy⟩ := hg
    obtain ⟨its, rv, p, _⟩ := I.tuple hqx
    obtain ⟨its2, rv2, p2, _⟩ := I.tuple hqy
    obtain ⟨u, hu, ru⟩ := rv.get hx
    obtain ⟨u2, hu2, ru2⟩ := rv2.get hy
    have hlt : ∀ c, c ∈ [e, z, TI, TO, i1, i2] → c < s.heap.objs.size := fun c hcm => by
      have e' : c = e ∨ c = z ∨ c = TI ∨ c = TO ∨ c = i1 ∨ c = i2 := by simpa using hcm
      rcases e' with q | q | q | q | q | q
      · rw [q]; exact Heap.lt_size he
      · rw [q]; exact Heap.lt_size hz
      · rw [q]; exact Heap.lt_size hTI
      · rw [q]; exact Heap.lt_size hTO
      · rw [q]; obtain ⟨_, e1, _⟩ := h1; exact Heap.lt_size e1
      · rw [q]; obtain ⟨_, e2, _⟩ := h2; exact Heap.lt_size e2
    refine enum_item_of (R := fun v h' => v = .ref s.heap.objs.size ∧ (∃ mk' f', MkOk mk' ∧ ZipM h' z TI TO mk' f') ∧ (∃ a' b', IsPair h' TO a' b') ∧ h'.IsTupleIter i1 a (i + 1) ∧ h'.IsTupleIter i2 b (i + 1) ∧ IsPair h' s.heap.objs.size u u2 ∧ h'.objs.size = s.heap.objs.size + 1 ∧
      (∀ c o, c ≠ z → c ≠ TO → c ≠ i1 → c ≠ i2 → s.heap.get? c = some o → h'.get? c = some o)) he (fun Q' E' hk => ?_) fun v h₁ h' hR hel ho hT hsz hk => ?_
    · refine nextOf_zip ⟨_, hz, rfl⟩ (zipM_item D hm hz hTI hTO h1 h2 p p2 (x := u) (y := u2) (by simpa using hu) (by simpa using hu2) fun h' mk' f' a' b' m' z' TO' h1' h2' hT hsz hk' => ?_)
      exact hk _ h' (hk' _ _ nz nTO n1 n2 he) ⟨rfl, ⟨mk', f', m', z'⟩, ⟨a', b', TO'⟩, h1', h2', hT, hsz, hk'⟩
    · obtain ⟨rfl, ⟨mk', f', m', z'⟩, ⟨a', b', TO'⟩, h1', h2', hT1, hsz1, hk1⟩ := hR
      have hel0 : e < s.heap.objs.size := Heap.lt_size he
      have hT0e : s.heap.objs.size ≠ e := Nat.ne_of_gt hel0
      have new1 : ObjOk X.prog X.w (upd H s.heap.objs.size (.tup [x, y])) h₁ s.heap.objs.size (.tup [x, y]) :=
        ⟨by show 2 ≤ sizeLine; decide, [u, u2], .cons ru (.cons ru2 .nil), ⟨_, hT1, rfl, _, rfl⟩⟩
      have hf1 : ∀ b ∈ [z, TO, i1, i2], FpOk X pins H b := fun c hcm => hf c (by
        have e' : c = z ∨ c = TO ∨ c = i1 ∨ c = i2 := by simpa using hcm
        rcases e' with q | q | q | q <;> rw [q] <;> simp)
      have I1 : Inv X pins σ (upd H s.heap.objs.size (.tup [x, y])) { s with heap := h₁ } :=
        I.turnedNew (t' := s.toks) (ch := [z, TO, i1, i2]) (fun c o hb q => hk1 c o (fun q' => hb (by simp [q'])) (fun q' => hb (by simp [q'])) (fun q' => hb (by simp [q'])) (fun q' => hb (by simp [q'])) q) hf1 (Nat.le_refl _) new1
      refine ⟨_, rfl, wpAny_letOwnedTupleGo_enum (s := { s with heap := h', toks := s.toks + 1 }) ho fun h'' he' sb => ?_⟩
      have hT2 : h''.get? h₁.objs.size = some { cls := .type "tuple", data := .seq #[.int i s.toks, .ref s.heap.objs.size] } := (sb.2 _ (Nat.ne_of_gt hel)).trans hT
      have new2 : ObjOk X.prog X.w (upd (upd H s.heap.objs.size (.tup [x, y])) h₁.objs.size (.tup [.int (i : Nat), .ref s.heap.objs.size])) h'' h₁.objs.size (.tup [.int (i : Nat), .ref s.heap.objs.size]) :=
        ⟨by show 2 ≤ sizeLine; decide, [.int i s.toks, .ref s.heap.objs.size], .cons ⟨_, rfl⟩ (.cons rfl .nil), ⟨_, hT2, rfl, _, rfl⟩⟩
      have fe : FpOk X pins (upd H s.heap.objs.size (.tup [x, y])) e := by
        obtain ⟨f0, f1⟩ := hf e (by simp)
        exact ⟨by rw [upd_ne hT0e.symm]; exact f0, f1⟩
      have I2 : Inv X pins σ (upd (upd H s.heap.objs.size (.tup [x, y])) h₁.objs.size (.tup [.int (i : Nat), .ref s.heap.objs.size])) { s with heap := h'', toks := s.toks + 1 } :=
        I1.turnedNew (t' := s.toks + 1) (ch := [e]) (fun c o hb q => (sb.2 c (fun q' => hb (by simp [q']))).trans (hk c o (fun q' => hb (by simp [q'])) q)) (fun c hcm => by
          have : c = e := by simpa using hcm
          rw [this]; exact fe) (Nat.le_refl _) new2
      have kk : ∀ c o, c ≠ e → h₁.get? c = some o → h''.get? c = some o := fun c o hc q => (sb.2 c hc).trans (hk c o hc q)
      have fr2 : H h₁.objs.size = none := I.hok.fresh (by rw [hsz1]; exact Nat.le_succ _)
      refine ⟨.ref h₁.objs.size, _, I2, rfl, ⟨s.heap.objs.size, h₁.objs.size, x, y, rfl, I.hok.fresh (Nat.le_refl _), fr2, by rw [hsz1]; exact Nat.succ_ne_self _, rfl, fun l hl => by rw [I.tuple_inj hl hqx]; exact hx, fun l hl => by rw [I.tuple_inj hl hqy]; exact hy⟩, ⟨⟨.ref s.heap.objs.size, ?_⟩, ⟨mk', f', m', kk _ _ nz.symm z'⟩, kk _ _ nTI.symm (hk1 _ _ D.TIz D.TITO D.TIi1 D.TIi2 hTI), ⟨a', b', kk _ _ nTO.symm TO'⟩, h1'.at fun o q => kk _ o n1.symm q, h2'.at fun o q => kk _ o n2.symm q, hn⟩, fun c hcm => ?_⟩
      · have e1 : ((i + 1 : Nat) : Int) = (i : Int) + 1 := by omega
        rw [e1]; exact he'
      · have l0 := hlt c hcm
        rw [upd_ne (Nat.ne_of_lt (by rw [hsz1]; exact Nat.lt_succ_of_lt l0)), upd_ne (Nat.ne_of_lt l0)]
        exact (hf c hcm).1
  done := by
    intro X hP hw hK hc i pins s σ H E I hf st hg
    subst hP hw hK
    obtain ⟨⟨old, he⟩, ⟨mk, f, hm, hz⟩, hTI, ⟨x0, y0, hTO⟩, h1, h2, hn⟩ := st
    obtain ⟨xs, ys, hqx, hqy, hend⟩ := hg
    obtain ⟨its, rv, p, _⟩ := I.tuple hqx
    obtain ⟨its2, rv2, p2, _⟩ := I.tuple hqy
    have l1 := rv.length
    have l2 := rv2.length
    have hq : its.toArray[i]? = none ∨ its2.toArray[i]? = none := by
      rcases hend with q | q
      · exact .inl (by simp; omega)
      · exact .inr (by simp; omega)
    refine enum_end_zip (fp := [e, z, TI, TO, i1, i2]) he (fun Q' E' hE => nextOf_zip ⟨_, hz, rfl⟩ (zipM_end (show X.A.in1.in1.handled = none from I.ok.hd hc) D hm hz hTI hTO h1 h2 p p2 hq fun h' e' hk he' => hE h' e' (fun c o hc q => hk c o (fun q' => hc (by simp [q'])) (fun q' => hc (by simp [q'])) (fun q' => hc (by simp [q'])) (fun q' => hc (by simp [q'])) q) he')) fun h' hk => ⟨rfl, I.turnedL (t' := s.toks) (ch := [e, z, TI, TO, i1, i2]) hk hf⟩
  self := fun A i s Q E st h => let ⟨⟨_, he⟩, _⟩ := st; wpAny_pyIter_enum he h
theorem itr_enumZ {K : PySem.W.Frag} {w : W3} {a b : Addr} {ds es : List PyData} (h : Dp K w.h (.ref a) (.tuple ds)) (h' : Dp K w.h (.ref b) (.tuple es)) : ItR K w (IteZ K a b) (enum3 (zip3 ds es)) fun _ => True := fun w' H S e r _ => by
  obtain ⟨a', xs, ea, hqa, ha⟩ := dp_tup_ref (dp_mono e.h _ _ h)
  obtain ⟨b', ys, eb, hqb, hb⟩ := dp_tup_ref (dp_mono e.h _ _ h')
  cases ea
  cases eb
  have hqa' := Same.sqT r.sub hqa
  have hqb' := Same.sqT r.sub hqb
  have la := DpAll.length ha
  have lb := DpAll.length hb
  refine ⟨fun i hi => ⟨xs, ys, hqa', hqb', by rw [enum3_len, zip3_len] at hi; omega⟩, fun i x hx => ?_⟩
  obtain ⟨x0, g0, rfl⟩ := enum3_get hx
  obtain ⟨x1, x2, g1, g2, rfl⟩ := zip3_get g0
  obtain ⟨v1, k1, k2⟩ := DpAll.get ha g1
  obtain ⟨v2, k3, k4⟩ := DpAll.get hb g2
  refine ⟨⟨xs, ys, v1, v2, hqa', hqb', k1, k3⟩, fun v H' y => ?_⟩
  obtain ⟨T, U, y1, y2, rfl, hn, hn2, hUT, rfl, z1, z2⟩ := y
  have := (z1 _ hqa').symm.trans k1
  cases this
  have := (z2 _ hqb').symm.trans k3
  cases this
  obtain ⟨w1, e1, r1, p1⟩ := pair_in r hn k2 k4
  obtain ⟨w2, e2, r2, p2⟩ := pair_in r1 (T := U) (by rw [upd_ne hUT]; exact hn2) (.int ((i : Nat) : Int)) p1
  exact ⟨w2, e1.trans e2, r2, p2⟩
section
variable {X : Cx} {e e2 : Expr} {ta : TA} {te : TA3} {p p2 pos pos2 tpos : Pos} {elts : List Expr} {kk : Nat}
def iEnumZ (K : PySem.W.Frag) (ta : TA) : TI := fun σ H R => ta σ H fun vs H1 => ∃ a b xs ys, vs = [.ref a, .ref b] ∧ SqT K H1 a xs ∧ SqT K H1 b ys ∧ R (IteZ K a b) H1
theorem pi_enumZ (hg : Gl X "enumerate") (hm : X.mg "enumerate" = none) (hg2 : Gl X "zip") (hm2 : X.mg "zip" = none) (ha : PA X [e, e2] ta)
    (hs : starEach [e, e2] X.env = (false, eval e X.env) :: starEach [e2] X.env := by rfl) (hpl : (backTo pos2 (starEach [e2] X.env)).any (·.1) = false := by rfl)
    (hs2 : starEach [.Call (.Name "zip" p2) [e, e2] [] pos2] X.env = (false, eval (.Call (.Name "zip" p2) [e, e2] [] pos2) X.env) :: starEach [] X.env := by rfl) :
    PI X (.Tuple elts kk tpos) (.Call (.Name "enumerate" p) [.Call (.Name "zip" p2) [e, e2] [] pos2] [] pos) (iEnumZ X.K ta) := by
  refine ⟨fun pins s σ H R I h => ?_⟩
  have inner : wpAny (model X.prog X.w) X.A (eval (.Call (.Name "zip" p2) [e, e2] [] pos2) X.env) (fun u s2 => ∃ (z a b : Addr) (H1 : Hp) (s0 : Shared), u = Value.ref z ∧ Inv X pins σ H1 s2 ∧ (∃ TI TO i1 i2, ZipApart z TI TO i1 i2 a b ∧ IsZip s2.heap z TI TO .none ∧ IsPair s2.heap TI (.ref i1) (.ref i2) ∧ (∃ x y, IsPair s2.heap TO x y) ∧ s2.heap.IsTupleIter i1 a 0 ∧ s2.heap.IsTupleIter i2 b 0 ∧ ∀ c ∈ [z, TI, TO, i1, i2], FpOk X pins H1 c) ∧ R (IteZ X.K a b) H1) X.xe s := by
    refine Call_ (ld_blt I hg2 hm2 PyProof.Rows.boot_zip (PyProof.Rows.callWith_type1 (thn (ha.run pos2 pins s σ H _ I h) fun us s1 ⟨vs, H1, I1, r1, q1⟩ => ?_) hs hpl))
    obtain ⟨a, b, xs, ys, ex, hqx, hqy, q⟩ := q1
    subst ex
    cases r1 with
    | cons r rr =>
      cases rr with
      | cons r' rr =>
        cases rr
        cases r
        cases r'
        have fresh5 : ∀ c, c ∈ [s1.heap.objs.size + 4, s1.heap.objs.size + 2, s1.heap.objs.size + 3, s1.heap.objs.size, s1.heap.objs.size + 1] → FpOk X pins H1 c := fun c hcm => by
          have e' : c = s1.heap.objs.size + 4 ∨ c = s1.heap.objs.size + 2 ∨ c = s1.heap.objs.size + 3 ∨ c = s1.heap.objs.size ∨ c = s1.heap.objs.size + 1 := by simpa using hcm
          have hle : s1.heap.objs.size ≤ c := by
            rcases e' with z | z | z | z | z
            · rw [z]; exact Nat.le_add_right _ _
            · rw [z]; exact Nat.le_add_right _ _
            · rw [z]; exact Nat.le_add_right _ _
            · rw [z]; exact Nat.le_refl _
            · rw [z]; exact Nat.le_add_right _ _
          exact I1.fpOk hle (I1.hok.fresh hle)
        obtain ⟨its, rv, p1, _⟩ := I1.tuple hqx
        obtain ⟨its2, rv2, p2, _⟩ := I1.tuple hqy
        obtain ⟨o1, ho1, _⟩ := id p1
        obtain ⟨o2, ho2, _⟩ := id p2
        refine RZ.call_zipT (show s1.heap.IsTuple a its.toArray from p1) (show s1.heap.IsTuple b its2.toArray from p2) fun h' hz hTI hTO h1 h2 hsz hk => ?_
        have I2 : Inv X pins σ H1 { s1 with heap := h' } := I1.kept (t' := s1.toks) hk
        exact ⟨s1.heap.objs.size + 4, a, b, H1, s1, rfl, I2, ⟨s1.heap.objs.size + 2, s1.heap.objs.size + 3, s1.heap.objs.size, s1.heap.objs.size + 1, PySem.W.ktu_apart s1.heap.objs.size a b (Heap.lt_size ho1) (Heap.lt_size ho2), hz, hTI, ⟨_, _, hTO⟩, h1, h2, fresh5⟩, q⟩
  refine Call_ (ld_blt I hg hm boot_enumerate (PyProof.Rows.callWith_type1 (args_cons (thn inner fun u s2 hx => args_nil ?_) hs2) hs2 rfl))
  obtain ⟨z, a, b, H1, _, rfl, I2, ⟨TI, TO, i1, i2, D, hz, hTI, hTO, h1, h2, hf⟩, q⟩ := hx
  refine call_enumG (v := .ref z) (hp' := fun h => h) (it := fun _ => z) (H := fun h => IsZip h z TI TO .none) (fun prog w A E s Q h1 hQ => wpAny_pyIter_zip h1 hQ) hz (fun b o x => x) fun h' he hk hsz => wpAny_pyIter_enum he ?_
  have I3 : Inv X pins σ H1 { s2 with heap := h' } := I2.kept (t' := s2.toks) hk
  have hl : ∀ c ∈ [z, TI, TO, i1, i2], c < s2.heap.objs.size := fun c hcm => by
    have e' : c = z ∨ c = TI ∨ c = TO ∨ c = i1 ∨ c = i2 := by simpa using hcm
    rcases e' with q | q | q | q | q
    · rw [q]; exact Heap.lt_size hz
    · rw [q]; exact Heap.lt_size hTI
    · rw [q]; obtain ⟨_, _, hTO⟩ := hTO; exact Heap.lt_size hTO
    · rw [q]; obtain ⟨_, e1, _⟩ := h1; exact Heap.lt_size e1
    · rw [q]; obtain ⟨_, e2, _⟩ := h2; exact Heap.lt_size e2
  refine ⟨s2.heap.objs.size, [s2.heap.objs.size, z, TI, TO, i1, i2], _, _, H1, rfl, I3, turn_enumZ s2.heap.objs.size D, ⟨⟨.none, he⟩, ⟨.none, false, .inl rfl, hk _ _ hz⟩, hk _ _ hTI, ?_, h1.at fun o q => hk _ o q, h2.at fun o q => hk _ o q, fun z => absurd (hl _ z) (Nat.lt_irrefl _)⟩, fun b hb => ?_, q⟩
  · obtain ⟨x, y, hTO⟩ := hTO
    exact ⟨x, y, hk _ _ hTO⟩
  · rcases List.mem_cons.mp hb with z | z
    · rw [z]
      exact I2.fpOk (Nat.le_refl _) (I2.hok.fresh (Nat.le_refl _))
    · exact hf b z
def tEnumZ3 (te : TA3) : TI3 := fun env S Q => te env S fun ds S1 => match ds with
  | [.p (.tuple xs), .p (.tuple ys)] => Q (enum3 (zip3 xs ys)) (fun _ => True) S1
  | _ => False
theorem qi_enumZ (hc : X.calm = true) (hg : Gl X "enumerate") (hm : X.mg "enumerate" = none) (hg2 : Gl X "zip") (hm2 : X.mg "zip" = none) (ha : QA X [e, e2] te)
    (hs : starEach [e, e2] X.env = (false, eval e X.env) :: starEach [e2] X.env := by rfl) (hpl : (backTo pos2 (starEach [e2] X.env)).any (·.1) = false := by rfl)
    (hs2 : starEach [.Call (.Name "zip" p2) [e, e2] [] pos2] X.env = (false, eval (.Call (.Name "zip" p2) [e, e2] [] pos2) X.env) :: starEach [] X.env := by rfl) :
    QI X (.Tuple elts kk tpos) (.Call (.Name "enumerate" p) [.Call (.Name "zip" p2) [e, e2] [] pos2] [] pos) (tEnumZ3 te) := (pi_enumZ hg hm hg2 hm2 ha hs hpl hs2).imp fun σ H R ⟨w, env, S, Q, r0, en, t, q⟩ => by
  refine ⟨w, env, S, _, r0, en, t, fun w1 vs ds H1 S1 e1 r1 p1 t1 => ?_⟩
  split at t1
  · obtain ⟨v, v2, rfl, p2, p3⟩ := rds2 p1
    obtain ⟨a, xs, rfl, hqa, ha⟩ := dp_tup_ref p2
    obtain ⟨b, ys, rfl, hqb, hb⟩ := dp_tup_ref p3
    have l1 := len_tup r1 p2
    refine ⟨a, b, xs, ys, rfl, Same.sqT r1.sub hqa, Same.sqT r1.sub hqb, q w1 _ H1 S1 _ _ e1 r1 (itr_enumZ p2 p3) (by rw [enum3_len, zip3_len]; omega) t1⟩
  · exact t1.elim
end
/-- walk_ofG over the part without empty tuples and tuples of ints -/
theorem walk_ofGE {l : PySem.W.OpenLaw} {n k : Nat} {q : Program} {loose : List Str} {XP : (Str → Option Value) → Heap → Prop} {YP : World → Heap → Prop} {d : DefRec} {K : Params → PySem.W.Frag} {sp : World → L2.Sp} {x : Str}
    (hn : l.most = some n) (hn2 : n ≤ sizeLine) (hdf : d.params.defaults = []) (hr : Room k callerA)
    (hY : ∀ (w : World) (h : Heap), YP w h → (K w.params).In h) (hs : ∀ w : World, ascB (K w.params) = true)
    (F : ∀ (w : World) (mg : Str → Option Value) (fa : Addr) (h : Heap), (filtK (K w.params)).In h → h.Ns mainGlobals mg → mg d.name = some (.ref fa) →
      ∃ fd : FuncData, (∀ (s : Shared) (u : Value), BindsTo s fd ⟨[u], []⟩ [(x, u)]) ∧
        ∀ base : Heap, (filtK (K w.params)).In base → base.Ns mainGlobals mg → FnG l.prog w (filtK (K w.params)) mg base k fa fd [x] (sp w))
    (hsp : ∀ (w : World) (H : Hp) (a : Addr) (ns : List Int), ns.length ≤ n → Only H → SqL (filtK (K w.params)) H a (ns.map V.int) → sp w [.ref a] H (fun v _ => v = .bl true) fun _ _ _ => False) :
    PySem.W.WalkO q loose XP YP l.row.toRowW d [] (fun f vs => PySem.call f vs) :=
  walk_ofG (K := fun p => filtK (K p)) hn hn2 hdf hr (fun w h Y => in_filt (hs w) (hY w h Y)) F hsp
theorem walk_ofDE {l : PySem.W.OpenLaw} {n k : Nat} {q : Program} {loose : List Str} {XP : (Str → Option Value) → Heap → Prop} {YP : World → Heap → Prop} {d : DefRec} {K : Params → PySem.W.Frag} {sp : World → L2.Sp} {x : Str}
    (hn : l.most = some n) (hn2 : n ≤ sizeLine) (hdf : d.params.defaults = []) (hr : Room k callerA)
    (hY : ∀ (w : World) (h : Heap), YP w h → (K w.params).In h) (hs : ∀ w : World, ascB (K w.params) = true)
    (F : ∀ (w : World) (mg : Str → Option Value) (fa : Addr) (h : Heap), (filtK (K w.params)).In h → h.Ns mainGlobals mg → mg d.name = some (.ref fa) →
      ∃ fd : FuncData, (∀ (s : Shared) (u : Value), BindsTo s fd ⟨[u], []⟩ [(x, u)]) ∧
        ∀ base : Heap, (filtK (K w.params)).In base → base.Ns mainGlobals mg → base.NoDigits → FnG l.prog w (filtK (K w.params)) mg base k fa fd [x] (sp w))
    (hsp : ∀ (w : World) (H : Hp) (a : Addr) (ns : List Int), ns.length ≤ n → Only H → SqL (filtK (K w.params)) H a (ns.map V.int) → sp w [.ref a] H (fun v _ => v = .bl true) fun _ _ _ => False) :
    PySem.W.WalkO q loose XP YP l.row.toRowW d [] (fun f vs => PySem.call f vs) :=
  walk_ofD (K := fun p => filtK (K p)) hn hn2 hdf hr (fun w h Y => in_filt (hs w) (hY w h Y)) F hsp
theorem filt_keep {a : Addr} {o : Obj} (ho : tupOk o = true) : ∀ {K : PySem.W.Frag}, K.lookup a = some o → (filtK K).lookup a = some o
  | [], h => nomatch h
  | (b, x) :: K, h => by
    unfold filtK
    rw [List.filter_cons]
    rw [List.lookup_cons] at h
    split at h
    · rename_i e
      cases h
      rw [if_pos ho, List.lookup_cons, e]
    · rename_i e
      have ih := filt_keep ho h
      split
      · rw [List.lookup_cons, e]
        exact ih
      · exact ih
theorem nsIn_filt {K : PySem.W.Frag} {a : Addr} {x : Str} {r : Option Value} (h : PySem.W.nsIn K a x = some r) : PySem.W.nsIn (filtK K) a x = some r := by
  unfold PySem.W.nsIn at h ⊢
  split at h
  · rename_i hl
    rw [filt_keep (by rfl) hl]
    exact h
  · cases h
theorem codeIn_filt {K : PySem.W.Frag} {v : Value} {x : Str} (h : PySem.W.codeIn K v x = true) : PySem.W.codeIn (filtK K) v x = true := by
  unfold PySem.W.codeIn at h ⊢
  split at h
  · split at h
    · rename_i hl
      rw [filt_keep (by rfl) hl]
      exact h
    · cases h
  · cases h
theorem keepIn_filt {K : PySem.W.Frag} {f : Addr} {c : Value} {d : Option Addr} {fd : FuncData} {sl : Array (Option Value)} (h : K.lookup f = some ⟨c, d, .func fd, sl⟩) : PySem.W.keepIn (filtK K) (.ref f) = true := by
  unfold PySem.W.keepIn
  simp only
  rw [filt_keep (by rfl) h]
end L3

set_option maxHeartbeats 1000000
/-! ### sorted(..) of tuples, empty ones among them -/
namespace L3
open PySem PySem.Spec PySem.Calls PyProof.Rows
section
open PySem.W PySem.SeqAt
variable {prog : Program} {w : World} {A : Around} {E : Value → Shared → Prop} {s : Shared}
/-- the call of tuple's own __lt__, as sorting makes it -/
theorem call_tuple_lt {Q : Value → Shared → Prop} {l b : Addr} {items items2 : Array Value} {e r : Nat → Bool} (hl : s.heap.IsTuple l items) (hb : s.heap.IsTuple b items2)
    (he : ∀ j (h1 : j < items.size) (h2 : j < items2.size), EqAt A.in1 s items[j] items2[j] (e j)) (hr : ∀ j (h1 : j < items.size) (h2 : j < items2.size), e j = false → RcLt A.in1 s items[j] items2[j] (r j))
    (h : Q (.bool (firstLt e r (decide (items.size < items2.size)) (List.range (min items.size items2.size)))) s) : wpAny (model prog w) A (call (.builtin "tuple.__lt__") [.ref l, .ref b]) Q E s := by
  obtain ⟨⟨cls, dd, data, sl⟩, ho, hc, n, hd⟩ := id hl
  obtain ⟨⟨cls2, dd2, data2, sl2⟩, ho2, hc2, n2, hd2⟩ := id hb
  simp only at hc hd hc2 hd2
  subst hc hd hc2 hd2
  exact call_meets F.slot_tuple_lt ⟨_, ho, rfl⟩ F.entry_tuple_lt (F.args_tuple_lt_2 _ _) (PySem.SeqAt.tuple_ltAt l b items items2 n n2 dd dd2 sl sl2 e r) ⟨ho, ho2, he, hr, h⟩
theorem oneLt_tup {f : Bool} {xs ys : List PyData} {a b : Value} {as bs : List Addr} {Q : Bool → Shared → Prop} (ra : Reads s.heap a (.tuple xs) as) (rb : Reads s.heap b (.tuple ys) bs) (h : alike (.tuple xs) (.tuple ys) = true)
    (hu : A.units + min (PyData.tuple xs).depth (PyData.tuple ys).depth < cLine) (hq : Q (dataLt (.tuple xs) (.tuple ys)) s) : wpAny (model prog w) A (oneLt' f a b) Q E s := by
  cases f with
  | false => exact oneLt_alike (fun z => nomatch z) ra rb h (by simp) hu hq
  | true =>
    have hal : alikeAll xs ys = true := by simpa [alike] using h
    cases ra with
    | @tuple l o vs n _ as₁ h1 h2 h3 h4 =>
      cases rb with
      | @tuple l' o' vs' n' _ bs₁ k1 k2 k3 k4 =>
        have n1 : vs.size = xs.length := by simpa using ReadsAll.length _ _ _ h4
        have n2 : vs'.size = ys.length := by simpa using ReadsAll.length _ _ _ k4
        rw [dataLt_tuple, ← firstLt_toks xs ys hal, ← n1, ← n2] at hq
        rw [oneLt'_eq]
        simp only [if_true]
        refine wpAny_bind (wpAny_cRoomFor (room_here hu) ?_)
        refine wpAny_bind (wpAny_callSpecialIfBound?_slot (T := "tuple") ⟨_, h1, h2⟩ F.slot_tuple_lt (call_tuple_lt (e := pairEq xs ys) (r := fun j => dataLt (xs.getD j .none) (ys.getD j .none)) ⟨_, h1, h2, _, h3⟩ ⟨_, k1, k2, _, k3⟩ (fun j j1 j2 => ?_) (fun j j1 j2 hj => ?_) ?_))
        · have := eqAt_alikeAll xs ys A.in1 s vs.toList vs'.toList _ _ h4 k4 hal (room_in hu) j (by simpa using j1) (by simpa using j2)
          simpa using this
        · have := rcLt_alikeAll xs ys A.in1 s vs.toList vs'.toList _ _ h4 k4 hal (room_in hu) j (by simpa using j1) (by simpa using j2) hj
          simpa using this
        · exact wpAny_truthy_bool hq
end
section
open PySem.W
variable {M : Model} {A : Around} {E : Value → Shared → Prop} {s : Shared}
/-- tuples with what stands first in each -/
def TupsO (h : Heap) : List Value → List (Option Value) → Prop
  | [], [] => True
  | v :: vs, f :: fs => (∃ a o xs n, v = .ref a ∧ h.get? a = some o ∧ o.cls = .type "tuple" ∧ o.data = .seq xs n ∧ xs[0]? = f) ∧ TupsO h vs fs
  | _, _ => False
theorem firstsO : ∀ (vs : List Value) (fs : List (Option Value)) {Q : List (Option Value) → Shared → Prop}, TupsO s.heap vs fs → Q fs s → wpAny M A (vs.mapM firstOfTuple') Q E s
  | [], [], _, _, h => by rw [List.mapM_nil]; exact wpAny_pure h
  | [], _ :: _, _, t, _ => t.elim
  | _ :: _, [], _, t, _ => t.elim
  | v :: vs, f :: fs, Q, t, h => by
    obtain ⟨⟨a, o, xs, n, rfl, ho, hc, hd, hf⟩, t⟩ := t
    rw [List.mapM_cons]
    refine wpAny_bind ?_
    rw [kas_first_eq]
    refine wpAny_bind (Looks.here (show Looks M s.heap (typeOf (.ref a)) o.cls from (Looks.ld ho).andThen .now) ?_)
    rw [hc, if_neg (by first | decide | simp)]
    refine wpAny_bind (listItems_at ho hd (wpAny_pure ?_))
    rw [hf]
    exact wpAny_bind (firstsO vs fs (Q := fun bs s' => wpAny M A (pure (f :: bs)) Q E s') t (wpAny_pure h))
theorem tupsO_looks : ∀ {vs : List Value} {fs : List (Option Value)}, TupsO s.heap vs fs → ∀ v ∈ vs, Looks M s.heap (typeOf v) (.type "tuple")
  | [], _, _, v, hv => nomatch hv
  | _ :: _, [], t, _, _ => t.elim
  | u :: vs, f :: fs, t, v, hv => by
    obtain ⟨⟨a, o, xs, n, rfl, ho, hc, hd, hf⟩, t⟩ := t
    rcases List.mem_cons.mp hv with rfl | hv
    · show Looks M s.heap (typeOf (.ref a)) (.type "tuple")
      exact hc ▸ (Looks.ld ho).andThen .now
    · exact tupsO_looks t v hv
theorem tupsO_len : ∀ {vs : List Value} {fs : List (Option Value)} {h : Heap}, TupsO h vs fs → vs.length = fs.length
  | [], [], _, _ => rfl
  | [], _ :: _, _, t => t.elim
  | _ :: _, [], _, t => t.elim
  | _ :: vs, _ :: fs, _, t => by rw [List.length_cons, List.length_cons, tupsO_len t.2]
/-- some tuple is empty: the kind of keys -/
theorem kindO {vs : List Value} {fs : List (Option Value)} {Q : SortKind → Shared → Prop} (t : TupsO s.heap vs fs) (hn : none ∈ fs) (h : Q (if (fs.toArray[0]?.bind id).isSome = true then general' else oneType') s) :
    wpAny M A (keyKind' vs.toArray) Q E s := by
  rw [kat_kind_eq, List.mapM_toArray, map_eq_pure_bind]
  refine wpAny_bind (wpAny_bind (firstsO vs fs t (wpAny_pure ?_)))
  have hall : ¬ (fs.toArray.all fun x => x.isSome) = true := by
    intro z
    simp only [List.all_toArray, List.all_eq_true] at z
    exact absurd (z none hn) (by simp)
  rw [if_neg hall]
  by_cases hf : (fs.toArray[0]?.bind id).isSome = true
  · rw [if_pos hf] at h ⊢
    exact wpAny_pure h
  · rw [if_neg hf] at h ⊢
    rw [oneTypeOnly'_eq, List.mapM_toArray, map_eq_pure_bind]
    refine wpAny_bind (wpAny_bind (wpAny_bind (kas_mapM (r := Value.type "tuple") _ (fun v hv Q' hq => (tupsO_looks t v hv).here hq) (wpAny_pure ?_))))
    have hl := tupsO_len t
    obtain ⟨v₁, vr, rfl⟩ : ∃ v₁ vr, vs = v₁ :: vr := by
      match vs, fs, hn, hl with
      | [], [], hn, _ => exact absurd hn (by simp)
      | v₁ :: vr, _, _, _ => exact ⟨v₁, vr, rfl⟩
    have hall2 : ((List.map (fun _ => Value.type "tuple") (v₁ :: vr)).toArray.all fun x => x == Value.type "tuple") = true := by
      simp only [List.all_toArray, List.all_map, List.all_eq_true]
      intro _ _
      exact beq_self_eq_true _
    have h0 : (List.map (fun _ => Value.type "tuple") (v₁ :: vr)).toArray[0]? = some (Value.type "tuple") := by simp
    rw [h0]
    simp only [hall2, if_true]
    exact wpAny_pure (wpAny_pure h)
theorem each_tupsO {h : Heap} : ∀ {vs : List Value} {ds : List PyData}, EachIs (fun v d => ∃ as, Reads h v d as) vs ds → (∀ d ∈ ds, ∃ xs, d = .tuple xs) → ∃ fs, TupsO h vs fs ∧ (.tuple [] ∈ ds → none ∈ fs)
  | _, _, .nil, _ => ⟨[], trivial, fun h => nomatch h⟩
  | _, _, .cons (b := d) ⟨as, r⟩ t, ht => by
    obtain ⟨fs, h1, h2⟩ := each_tupsO t fun d hd => ht d (List.mem_cons_of_mem _ hd)
    obtain ⟨xs, rfl⟩ := ht d List.mem_cons_self
    cases r with
    | @tuple a o vs n _ _ ho hc hd hr =>
      refine ⟨vs[0]? :: fs, ⟨⟨a, o, vs, n, rfl, ho, hc, hd, rfl⟩, h1⟩, fun hm => ?_⟩
      rcases List.mem_cons.mp hm with e | hm
      · cases e
        have hz : vs.toList = [] := by
          cases q : vs.toList with
          | nil => rfl
          | cons x y => rw [q] at hr; cases hr
        have : vs[0]? = none := by rw [← Array.getElem?_toList, hz]; rfl
        rw [this]
        exact List.mem_cons_self
      · exact List.mem_cons_of_mem _ (h2 hm)
end
section
open PySem.W
variable {prog : Program} {w : World} {A : Around} {s : Shared}
theorem sortsAt_tups {vs : List Value} {ds : List PyData} (e : EachIs (fun v d => ∃ as, Reads s.heap v d as) vs ds) (hal : AllAlike ds) (ht : ∀ d ∈ ds, ∃ xs, d = .tuple xs) (hu : ∀ d, d ∈ ds → A.units + d.depth < cLine) : SortsAt prog w A s (dataKind s.heap ds) vs := by
  by_cases hem : PyData.tuple [] ∈ ds
  · have room : ∀ {d d' : PyData}, d ∈ ds → A.units + min d.depth d'.depth < cLine := fun {d d'} hd => Nat.lt_of_le_of_lt (Nat.add_le_add_left (Nat.min_le_left _ _) _) (hu d hd)
    have key : ∀ v, v ∈ vs → ∃ a, (dataKind s.heap ds).keyOf v = some a := fun v hv => by
      obtain ⟨d, hd, as, r⟩ := e.left v hv
      exact ⟨_, dataKind_some hal hd r⟩
    obtain ⟨fs, h1, h2⟩ := each_tupsO e ht
    have lt : ∀ f : Bool, H.LtAt prog w A s (dataKind s.heap ds) (if f = true then oneType' else general') := by
      intro f E x y a b Q ha hb hq
      obtain ⟨d, as, hd, ra, rfl⟩ := dataKind_inv ha
      obtain ⟨d', as', hd', rb, rfl⟩ := dataKind_inv hb
      obtain ⟨xs, rfl⟩ := ht d hd
      obtain ⟨ys, rfl⟩ := ht d' hd'
      cases f with
      | true =>
        simp only [if_true]
        rw [keyLt'_oneType]
        exact oneLt_tup ra rb (hal _ hd _ hd') (room hd) hq
      | false =>
        simp only [Bool.false_eq_true, if_false]
        show wpAny (model prog w) A (oneLt' false x y) Q E s
        exact oneLt_tup ra rb (hal _ hd _ hd') (room hd) hq
    refine ⟨key, if (fs.toArray[0]?.bind id).isSome = true then general' else oneType', ?_, fun _ E Q hq => kindO h1 (h2 hem) hq⟩
    by_cases hf : (fs.toArray[0]?.bind id).isSome = true
    · rw [if_pos hf]
      exact lt false
    · rw [if_neg hf]
      exact lt true
  · refine SortsAt.data e hal (.inl fun d hd => ?_) hu
    obtain ⟨xs, rfl⟩ := ht d hd
    cases xs with
    | nil => exact absurd hd hem
    | cons x r => exact ⟨x, r, rfl⟩
end
section
open PySem.W
variable {prog : Program} {w : World} {A : Around} {E : Value → Shared → Prop} {s : Shared} {β : Type} {vs : List Value} {bs : List β} {enc : β → PyData} {R : Value → β → Prop}
/-- sorted(xs) of tuples -/
theorem sorted_tups {l : Addr} {Q : Value → Shared → Prop} (hl : s.heap.IsList l vs.toArray) (e : EachIs R vs bs) (er : EachIs (fun v b => ∃ as, Reads s.heap v (enc b) as) vs bs) (hal : AllAlike (bs.map enc)) (ht : ∀ d ∈ bs.map enc, ∃ xs, d = .tuple xs) (hL : bs.length ≤ sizeLine)
    (hu : ∀ b, b ∈ bs → A.units + 2 + (enc b).depth < cLine) (h : ∀ out, out.length = bs.length → EachIs R out (bs.mergeSort (dataLe false enc)) → Q (.ref (s.heap.objs.size + 1)) { s with heap := sortedAll s.heap vs (List.toArray out) }) :
    wpAny (model prog w) A (call (.builtin "sorted") [.ref l]) Q E s := by
  have er' : EachIs (fun v b => ∃ as, Reads (sortingHeap (copyHeap s.heap vs) (s.heap.objs.size + 1) vs) v (enc b) as) vs bs := er.mono fun _ _ ⟨as, r⟩ => ⟨as, PyProof.Rows.Reads.keeps (fun _ _ => sorting_copy_old) r⟩
  exact sorted_vals hl (sortsAt_tups (s := { s with heap := sortingHeap (copyHeap s.heap vs) (s.heap.objs.size + 1) vs }) (each_map (R := fun v d => ∃ as, Reads (sortingHeap (copyHeap s.heap vs) (s.heap.objs.size + 1) vs) v d as) enc er') hal ht (bound_map hu)) (by rw [e.length]; exact hL)
    (h _ (by rw [sortVals_length false rfl]; exact e.length) (sortVals_data false e er' hal))
end
def AllTup (ds : List PyData) : Prop := ∀ d ∈ ds, ∃ xs, d = .tuple xs
open L2
section
variable {X : Cx}
open PySem.W in
def rSortedTE : List V → Hp → VK → Prop := fun vs H Q => ∃ (d : Addr) (kvs : List (List Key × V)), vs = [V.ref d] ∧ Rd H d (.dT kvs) ∧ AllAlike (kvs.map fun p => keyPd p.1) ∧ AllTup (kvs.map fun p => keyPd p.1) ∧ (∀ e ∈ kvs.map (fun p => keyPd p.1), e.depth ≤ 60) ∧
  ∀ p bs, H p = none → KeysAt H kvs bs → kvs.length ≤ sizeLine → Q (.ref p) (upd H p (.lst ((((bs.map V.ref).zip (kvs.map fun p => keyPd p.1)).mergeSort (dataLe false Prod.snd)).map (·.1))))
open PySem.W in
theorem cr_sortedTE (hcalm : X.calm = true) (hu : X.A.units + 64 < cLine) : CallR X (.builtin "sorted") rSortedTE := by
  intro pins s σ H vs us Q I r h
  obtain ⟨d, kvs, rfl, hd, hal, hk, hdep, q⟩ := h
  obtain ⟨u, rfl, rx⟩ := r.one
  cases rx
  obtain ⟨z, hs, ks, pr, o, es, ep, ho, hx, hdt, he, hn⟩ := (show ObjOk X.prog X.w H s.heap d (.dT kvs) from hd.ok I.hok)
  have l1 : es.size = ks.length := size_of_entries he
  have l2 : kvs.length = ks.length := Paired.length pr
  refine Calls.call_function_entry PyProof.Rows.kind_sorted PyProof.Rows.plain_sorted PyProof.Rows.entry_sorted (PyProof.Rows.args_sorted1 _) ?_
  unfold Builtin.«sorted»
  refine wpAny_bind (m := checkCount "sorted" 1 1 _) (wpAny_pure ?_)
  refine wpAny_bind (PySem.W.kdu_collect (A := X.A.in1) (kdl_raw hs hx hdt) (I.ok.hd hcalm) ho (by omega) fun h' tk acc hkp it => ?_)
  have hacl : acc.toList.length = ks.length := by rw [Array.length_toList, it.1]; exact l1
  have ea : acc.toList = (ks.map fun x => x.2.1).map Value.ref := by
    rw [List.map_map]
    apply List.ext_getElem?
    intro j
    rw [List.getElem?_map]
    cases hj : acc.toList[j]? with
    | none =>
      have h1 := List.getElem?_eq_none_iff.mp hj
      rw [List.getElem?_eq_none (by omega)]
      all_goals rfl
    | some v =>
      obtain ⟨en, hen, hv⟩ := it.2 j v (by rw [← Array.getElem?_toList]; exact hj)
      have qe := entry_at he j
      rw [hen] at qe
      cases hb : ks[j]? with
      | none =>
        rw [hb] at qe
        exact nomatch (show some en = none from qe)
      | some b =>
        rw [hb] at qe
        have e2 : en = entryOfKey (tupleKind (mixKind X.prog X.w)) b := Option.some.inj qe
        rw [hv, e2]
        all_goals rfl
  have rv : Vals ((ks.map fun x => x.2.1).map V.ref) acc.toList := by rw [ea]; exact vals_refs _
  have hka : KeysAt H kvs (ks.map fun x => x.2.1) := keysAt_of I.hok pr
  have hdp : DpAll X.K H ((ks.map fun x => x.2.1).map V.ref) (kvs.map fun p => keyPd p.1) := dpAll_keys hka
  obtain ⟨e1, e2⟩ := each_zip I rv hdp
  generalize hbs : ((ks.map fun x => x.2.1).map V.ref).zip (kvs.map fun p => keyPd p.1) = bs at e1 e2
  have hm : bs.map Prod.snd = kvs.map fun p => keyPd p.1 := by
    rw [← hbs]
    exact zip_snd (by simp [l2])
  have hbl : bs.length = ks.length := by rw [← hbs, List.length_zip]; simp [l2]
  have I1 : L2.Inv X pins σ H { s with heap := h', toks := tk } := I.kept hkp
  refine wpAny_bind (wpAny_newList ?_ (by rw [hacl]; omega))
  have hoL : (h'.push (seqObj "list" acc.toList.toArray 0)).get? h'.objs.size = some (seqObj "list" acc.toList.toArray 0) := Heap.get?_push_size _ rfl
  show wpAny _ _ _ _ _ { s with heap := h'.push (seqObj "list" acc.toList.toArray 0), toks := tk }
  have old : ∀ b o, s.heap.get? b = some o → (sortingHeap (h'.push (seqObj "list" acc.toList.toArray 0)) h'.objs.size acc.toList).get? b = some o := fun b o e =>
    sortingHeap_old (Nat.ne_of_lt (Heap.lt_size (hkp b o e))) (Heap.get?_push_of_some _ (hkp b o e))
  have er' : EachIs (fun v b => ∃ as, Reads (sortingHeap (h'.push (seqObj "list" acc.toList.toArray 0)) h'.objs.size acc.toList) v (Prod.snd b) as) acc.toList bs := e2.mono fun _ _ ⟨as, r⟩ => ⟨as, PyProof.Rows.Reads.keeps old r⟩
  have hub : ∀ b, b ∈ bs → X.A.in1.in1.units + (Prod.snd b).depth < cLine := fun b hb => by
    have : b.2 ∈ kvs.map fun p => keyPd p.1 := by
      rw [← hm]
      exact List.mem_map.mpr ⟨b, hb, rfl⟩
    have := hdep _ this
    show X.A.units + 1 + 1 + _ < cLine
    omega
  refine wpAny_bind (wpAny_holding (wpAny_call_entry PyProof.Rows.slot_list_sort ⟨_, hoL, rfl⟩ PyProof.Rows.entry_list_sort
    (list_sort_vals (κ := dataKind (sortingHeap (h'.push (seqObj "list" acc.toList.toArray 0)) h'.objs.size acc.toList) (bs.map Prod.snd)) hoL (sortsAt_tups (s := { s with heap := sortingHeap (h'.push (seqObj "list" acc.toList.toArray 0)) h'.objs.size acc.toList, toks := tk }) (each_map (R := fun v d => ∃ as, Reads (sortingHeap (h'.push (seqObj "list" acc.toList.toArray 0)) h'.objs.size acc.toList) v d as) Prod.snd er') (by rw [hm]; exact hal) (by rw [hm]; exact hk) (bound_map hub)) (by rw [hacl]; omega) ⟨_, rfl, ?_⟩)
    (PyProof.Rows.args_list_sort _)))
  have hR := sortVals_data (enc := Prod.snd) false e1 er' (by rw [hm]; exact hal)
  obtain ⟨e', he'⟩ := PyProof.Rows.sortedHeap_at (vs := acc.toList) (out := (sortVals (dataKind (sortingHeap (h'.push (seqObj "list" acc.toList.toArray 0)) h'.objs.size acc.toList) (bs.map Prod.snd)) false acc.toList acc.toList).toArray) hoL
  have hl2 : ((bs.mergeSort (dataLe false Prod.snd)).map (·.1)).length ≤ sizeLine := by
    rw [List.length_map, List.length_mergeSort, hbl]
    omega
  have q' := q h'.objs.size (ks.map fun x => x.2.1) (I1.hok.fresh (Nat.le_refl _)) hka z
  rw [hbs] at q'
  refine wpAny_pure ⟨_, rfl, .ref h'.objs.size, upd H h'.objs.size (.lst ((bs.mergeSort (dataLe false Prod.snd)).map (·.1))), I1.laid (t' := tk) (fun b u e => ?_) (Nat.le_refl _) ⟨hl2, _, e', vals_each hR, he'⟩, rfl, q'⟩
  have hb : b < h'.objs.size := Heap.lt_size e
  rw [PyProof.Rows.sortedHeap_old (Nat.ne_of_lt hb) (by rw [size_push']; exact Nat.lt_succ_of_lt hb)]
  exact Heap.get?_push_of_some _ e
/-- sorted(d) -/
def tSortedTE3 (te : TE3) : TN3 := fun env S Q => te env S fun x S1 => match dic3 S1 x with
  | some (_, kvs) => (PySem.W.AllAlike (kvs.map fun p => keyPd p.1) ∧ AllTup (kvs.map fun p => keyPd p.1) ∧ ∀ d ∈ kvs.map (fun p => keyPd p.1), d.depth ≤ 60) ∧ Q (sortD (kvs.map fun p => keyPd p.1)) S1
  | none => False
theorem qn_sortedTE {e : Expr} {te : TE3} {p pos : Pos} (hcalm : X.calm = true) (hu : X.A.units + 64 < cLine) (hg : Gl X "sorted") (hm : X.mg "sorted" = none) (ha : QE X e te) (hs : starEach [e] X.env = (false, eval e X.env) :: starEach [] X.env := by rfl) (hpl : (backTo pos (starEach [] X.env)).any (·.1) = false := by rfl) :
    QN X (.Call (.Name "sorted" p) [e] [] pos) (tSortedTE3 te) := L2.PE.imp (pe_callB (cr_sortedTE hcalm hu) hg hm (by decide +kernel) (pa_cons ha pa_nil hs) (by decide) (by decide) hs hpl) fun σ H R ⟨w, env, S, Q, r0, en, t, q⟩ => by
  refine ⟨w, env, S, _, r0, en, t, fun w1 v d H1 S1 e1 r1 p1 t1 => ?_⟩
  split at t1
  · rename_i n kvs h1
    obtain ⟨a, kxs, rfl, rfl, ha, hs', hH, hp⟩ := dic3_low r1 p1 h1
    obtain ⟨⟨c1, c2, c3⟩, t1⟩ := t1
    have ek := pt_keys hp
    refine ⟨a, kxs, rfl, .inl hH, by rw [ek]; exact c1, by rw [ek]; exact c2, by rw [ek]; exact c3, fun p bs hn hb hz => ?_⟩
    obtain ⟨h', e2, r2, dd⟩ := Rel3.tups r1 hb
    rw [ek] at dd ⊢
    have hlen := DpAll.length dd
    have hsnd : (((bs.map V.ref).zip (kvs.map fun p => keyPd p.1)).mergeSort (PySem.W.dataLe false Prod.snd)).map (·.2) = sortD (kvs.map fun p => keyPd p.1) := by
      have e := List.map_mergeSort (f := fun x : V × PyData => x.2) (r := PySem.W.dataLe false Prod.snd) (s := PySem.W.dataLe false id) (l := (bs.map V.ref).zip (kvs.map fun p => keyPd p.1)) (fun _ _ _ _ => rfl)
      unfold sortD
      rw [e, zip_snd hlen]
    refine q ⟨w1.al, h', w1.pn⟩ p _ (sortD (kvs.map fun p => keyPd p.1)) H1 S1 (e1.trans e2) r2 hn ?_ ?_ t1
    · rw [← hsnd]
      exact dp_unzip fun p hp => zip_dp dd p (List.mem_mergeSort.mp hp)
    · unfold sortD
      rw [List.length_mergeSort, ← ek, List.length_map]
      exact hz
  · exact t1.elim
open PySem.W in
def rSortedDE (K : PySem.W.Frag) : List V → Hp → VK → Prop := fun vs H Q => ∃ (a : Addr) (xs : List V) (ds : List PyData), vs = [V.ref a] ∧ SqL K H a xs ∧ DpAll K H xs ds ∧ AllAlike ds ∧ AllTup ds ∧ (∀ d ∈ ds, d.depth ≤ 60) ∧
  ∀ p, H p = none → Q (.ref p) (upd H p (.lst (((xs.zip ds).mergeSort (dataLe false Prod.snd)).map (·.1))))
open PySem.W in
theorem cr_sortedDE {X : Cx} (hu : X.A.units + 64 < cLine) : CallR X (.builtin "sorted") (rSortedDE X.K) := by
  intro pins s σ H vs us Q I r h
  obtain ⟨a, xs, ds, rfl, hs, hd, hal, hk, hdep, q⟩ := h
  obtain ⟨its, rv, hl, hz⟩ := I.list hs
  rw [Vals.ref1 r]
  obtain ⟨e1, e2⟩ := each_zip I rv hd
  have hlen := DpAll.length hd
  have hsnd := zip_snd hlen
  have hm : (xs.zip ds).map Prod.snd = ds := hsnd
  have hbl : (xs.zip ds).length = xs.length := by rw [List.length_zip]; omega
  refine sorted_tups (bs := xs.zip ds) (enc := Prod.snd) (R := fun v (b : V × PyData) => RelV b.1 v) hl.isList e1 e2 (by rw [hm]; exact hal) (by rw [hm]; exact hk) (by rw [hbl]; exact hz) (fun b hb => ?_) fun out ho hR => ?_
  · have : b.2 ∈ ds := by
      rw [← hm]
      exact List.mem_map.mpr ⟨b, hb, rfl⟩
    have := hdep _ this
    omega
  · obtain ⟨ep, he'⟩ := PyProof.Rows.sortedAll_at s.heap its out.toArray
    have hl2 : (((xs.zip ds).mergeSort (dataLe false Prod.snd)).map (·.1)).length ≤ sizeLine := by
      rw [List.length_map, List.length_mergeSort, hbl]
      exact hz
    exact ⟨.ref _, upd H (s.heap.objs.size + 1) (.lst (((xs.zip ds).mergeSort (dataLe false Prod.snd)).map (·.1))), I.laid (t' := s.toks) (fun _ _ => PyProof.Rows.sortedAll_old) (Nat.le_succ _) ⟨hl2, out, ep, vals_each hR, he'⟩, rfl, q _ (I.hok.fresh (Nat.le_succ _))⟩
def tSortedDE3 (te : TE3) : TN3 := fun env S Q => te env S fun x S1 => match lst3 S1 x with
  | some ds => (PySem.W.AllAlike ds ∧ AllTup ds ∧ ∀ d ∈ ds, d.depth ≤ 60) ∧ Q (sortD ds) S1
  | none => False
theorem qn_sortedDE {X : Cx} {e : Expr} {te : TE3} {p pos : Pos} (hu : X.A.units + 64 < cLine) (hg : Gl X "sorted") (hm : X.mg "sorted" = none) (ha : QE X e te) (hs : starEach [e] X.env = (false, eval e X.env) :: starEach [] X.env := by rfl) (hpl : (backTo pos (starEach [] X.env)).any (·.1) = false := by rfl) :
    QN X (.Call (.Name "sorted" p) [e] [] pos) (tSortedDE3 te) := L2.PE.imp (pe_callB (cr_sortedDE hu) hg hm (by decide +kernel) (pa_cons ha pa_nil hs) (by decide) (by decide) hs hpl) fun σ H R ⟨w, env, S, Q, r0, en, t, q⟩ => by
  refine ⟨w, env, S, _, r0, en, t, fun w1 v d H1 S1 e1 r1 p1 t1 => ?_⟩
  split at t1
  · rename_i ds h1
    obtain ⟨a, xs, rfl, hq, hd, hz⟩ := lst3_low r1 p1 h1
    have hlen := DpAll.length hd
    obtain ⟨⟨c1, c2, c3⟩, t1⟩ := t1
    refine ⟨a, xs, ds, rfl, hq, dpAll_mono r1.sub _ _ hd, c1, c2, c3, fun p hn => ?_⟩
    have hsnd : ((xs.zip ds).mergeSort (PySem.W.dataLe false Prod.snd)).map (·.2) = sortD ds := by
      have e := List.map_mergeSort (f := fun x : V × PyData => x.2) (r := PySem.W.dataLe false Prod.snd) (s := PySem.W.dataLe false id) (l := xs.zip ds) (fun _ _ _ _ => rfl)
      unfold sortD
      rw [e, zip_snd hlen]
    refine q w1 p _ (sortD ds) H1 S1 e1 r1 hn ?_ ?_ t1
    · rw [← hsnd]
      exact dp_unzip fun p hp => zip_dp hd p (List.mem_mergeSort.mp hp)
    · unfold sortD
      rw [List.length_mergeSort]
      exact hz
  · exact t1.elim
end
/-- len of an own dict whose keys are tuples -/
def rLenT3 : C3 := fun ds S Q => match ds with
  | [d] => (match dic3 S d with
    | some (_, kvs) => Q (.p (.int kvs.length)) S
    | none => False)
  | _ => False
theorem cq_lenT {X : Cx} : CQ X (.builtin "len") rLenT3 := CallR.imp call_len_dT fun xs H R ⟨w, S, ds, Q, r0, p1, t, q⟩ => by
  unfold rLenT3 at t
  split at t
  · rename_i d
    split at t
    · rename_i n kvs ho'
      obtain ⟨v, rfl, p⟩ := rds1 p1
      obtain ⟨a, kxs, rfl, rfl, ha, hs', hH, hp⟩ := dic3_low r0 p ho'
      refine ⟨a, kxs, rfl, hH, ?_⟩
      rw [Paired.length hp]
      exact q.int r0 t
    · exact t.elim
  · exact t.elim
end L3

namespace L3
open PySem PySem.Spec PyProof.Rows L2
/-! ### ranges from their ends, ranges with a step -/
/-- lo, lo + c, lo + 2 c, .., n numbers -/
def rngC (lo c : Int) (n : Nat) : List PyData := (List.range n).map fun i => .int (lo + (i : Nat) * c)
theorem rngC_len (lo c : Int) (n : Nat) : (rngC lo c n).length = n := by unfold rngC; rw [List.length_map, List.length_range]
theorem rngC_get {lo c : Int} {n i : Nat} {x : PyData} (h : (rngC lo c n)[i]? = some x) : i < n ∧ x = .int (lo + (i : Nat) * c) := by
  have hi : i < n := by rw [← rngC_len lo c n]; exact (List.getElem?_eq_some_iff.mp h).1
  unfold rngC at h
  rw [List.getElem?_map, List.getElem?_eq_getElem (by rw [List.length_range]; exact hi), List.getElem_range] at h
  exact ⟨hi, (Option.some.inj h).symm⟩
theorem rngC_at {lo c : Int} {n i : Nat} (hi : i < n) : (rngC lo c n)[i]? = some (.int (lo + (i : Nat) * c)) := by
  unfold rngC
  rw [List.getElem?_map, List.getElem?_eq_getElem (by rw [List.length_range]; exact hi), List.getElem_range]
  rfl
theorem itr_rngC {K : PySem.W.Frag} {w : W3} {lo c : Int} {n : Nat} : ItR K w (Itc lo c n) (rngC lo c n) fun _ => True := fun w' H S e r _ => by
  refine ⟨fun i h => ?_, fun i x h => ?_⟩
  · rw [rngC_len] at h
    exact h
  · obtain ⟨hi, rfl⟩ := rngC_get h
    refine ⟨hi, fun v H' z => ?_⟩
    obtain ⟨rfl, rfl⟩ := z
    exact ⟨w', Ex3.refl _, r, .int _⟩
def tRevRg1 (te : TE3) : TI3 := fun env S Q => te env S fun x S1 => match x with
  | .p (.int n) => (-16777216 ≤ n ∧ n ≤ 16777216) ∧ Q (rngC ((n.toNat : Int) - 1) (-1) n.toNat) (fun _ => True) S1
  | _ => False
def tRg3 (ta : TA3) : TI3 := fun env S Q => ta env S fun ds S1 => match ds with
  | [.p (.int a), .p (.int b), .p (.int c)] => ∃ n : Nat, RgC a b c n ∧ n ≤ 16777216 ∧ Q (rngC a c n) (fun _ => True) S1
  | _ => False
section
variable {X : Cx} {a b c : Expr} {ta : TE3} {tr : TA3} {p p2 pos pos2 : Pos} {tg : Expr}
theorem qi_revRg1 (hg : Gl X "reversed") (hm : X.mg "reversed" = none) (hg2 : Gl X "range") (hm2 : X.mg "range" = none) (ha : QE X a ta) (na : starEach [a] X.env = (false, eval a X.env) :: starEach [] X.env := by rfl)
    (nb : starEach [.Call (.Name "range" p2) [a] [] pos2] X.env = (false, eval (.Call (.Name "range" p2) [a] [] pos2) X.env) :: starEach [] X.env := by rfl) :
    QI X tg (.Call (.Name "reversed" p) [.Call (.Name "range" p2) [a] [] pos2] [] pos) (tRevRg1 ta) := L2.PI.imp (pi_revR hg hm (prg_1 hg2 hm2 ha na) nb) fun σ H R ⟨w, env, S, Q, r0, en, t, q⟩ => by
  have hz : sizeLine = 16777216 := sizeLine_eq
  refine ⟨w, env, S, _, r0, en, t, fun w1 v d H1 S1 e1' r1 p1 t1 => ?_⟩
  split at t1
  · rename_i n
    obtain ⟨⟨h0, h1⟩, t1⟩ := t1
    refine ⟨n, dp_int p1, by decide, by decide, by omega, by omega, ?_⟩
    have e1 : (0 : Int) + ((((n - 0).toNat : Nat) : Int)) - 1 = (n.toNat : Int) - 1 := by rw [Int.sub_zero, Int.zero_add]
    have e2 : (n - 0).toNat = n.toNat := by rw [Int.sub_zero]
    rw [e1, e2]
    exact q w1 _ H1 S1 _ _ e1' r1 itr_rngC (by rw [rngC_len]; omega) t1
  · exact t1.elim
theorem qi_range3 (hg : Gl X "range") (hm : X.mg "range" = none) (ha : QA X [a, b, c] tr)
    (hs : starEach [a, b, c] X.env = (false, eval a X.env) :: starEach [b, c] X.env := by rfl) (hpl : (backTo pos (starEach [b, c] X.env)).any (·.1) = false := by rfl) :
    QI X tg (.Call (.Name "range" p) [a, b, c] [] pos) (tRg3 tr) := L2.PI.imp (pi_range3 hg hm ha hs hpl) fun σ H R ⟨w, env, S, Q, r0, en, t, q⟩ => by
  have hz : sizeLine = 16777216 := sizeLine_eq
  refine ⟨w, env, S, _, r0, en, t, fun w1 vs ds H1 S1 e1 r1 p1 t1 => ?_⟩
  split at t1
  · obtain ⟨n, hc, hn, t1⟩ := t1
    match vs, p1 with
    | [x, y, z], p1 =>
      refine ⟨_, _, _, n, ?_, hc, q w1 _ H1 S1 _ _ e1 r1 itr_rngC (by rw [rngC_len]; omega) t1⟩
      rw [dp_int p1.1, dp_int p1.2.1, dp_int p1.2.2.1]
    | [], p1 => exact p1.elim
    | [_], p1 => exact p1.2.elim
    | [_, _], p1 => exact p1.2.2.elim
    | _ :: _ :: _ :: _ :: _, p1 => exact p1.2.2.2.elim
  · exact t1.elim
end
/-! ### o.extend(x), x a tuple -/
end L3

namespace L3
open PySem PySem.Spec PyProof.Rows L2
/-! ### errors: a caught error is a tracked object -/
/-- an error's object, by its class and its dict -/
def ErrO (cls : Value) (d : Option Addr) (a : Addr) : HO := .ext fun h => ∃ (oe : Obj) (vs : Array Value), h.get? a = some oe ∧ L2N.Zn cls d oe ∧ oe.data = .fields vs
theorem errO_ok {P : Program} {w : World} {H : Hp} {h : Heap} {a : Addr} {cls : Value} {d : Option Addr} {oe : Obj} {vs : Array Value} (e : h.get? a = some oe) (z : L2N.Zn cls d oe) (dd : oe.data = .fields vs) : ObjOk P w H h a (ErrO cls d a) :=
  ⟨⟨oe, vs, e, z, dd⟩, ⟨oe, e⟩, fun _ _ x k => let ⟨o, v, q, r⟩ := x; ⟨o, v, k o q, r⟩⟩
section
variable {X : Cx} {pins : List (Addr × Obj)} {σ : L2.St} {H : Hp} {s : Shared}
/-- an error that the heap holds is tracked from now on -/
theorem inv_track (I : L2.Inv X pins σ H s) {a : Addr} {cls : Value} {d : Option Addr} {oe : Obj} {vs : Array Value} (ha : s.heap.get? a = some oe) (hd : oe.data = .fields vs) (hz : L2N.Zn cls d oe) (na : H a = none) (n0 : X.s_0.heap.get? a = none) (nL : a ≠ X.env.locals)
    (np : ∀ p ∈ X.pn ++ pins, p.1 ≠ a) : L2.Inv X pins σ (upd H a (ErrO cls d a)) s := by
  have old : ∀ {b : Addr} {u : HO}, H b = some u → upd H a (ErrO cls d a) b = some u := fun {b u} q => by
    have nb : b ≠ a := fun z => by rw [z, na] at q; cases q
    rw [upd_ne nb]
    exact q
  have non : ∀ {b : Addr}, b ≠ a → H b = none → upd H a (ErrO cls d a) b = none := fun {b} nb q => by
    rw [upd_ne nb]
    exact q
  have cells : ∀ x c, X.env.cells.lookup x = some c → c ≠ a := fun x c q z => by
    obtain ⟨v, o, h1, h2⟩ := I.cell x c q
    rw [z, ha] at h1
    cases h1
    rw [hd] at h2
    cases h2
  exact {
    ok := I.ok
    os := I.os
    bare := I.bare
    base := {
      keep := I.base.keep
      slot := I.base.slot
      free := fun b o q n x => non (fun z => by rw [z, n0] at q; cases q) (I.base.free b o q n x)
      there := I.base.there
      tups := fun b xs q => old (I.base.tups b xs q)
      frzs := fun b o u q => old (I.base.frzs b o u q)
      tbls := fun b ps q => let ⟨m, z⟩ := I.base.tbls b ps q; ⟨m, old z⟩ }
    loc := I.loc
    cell := I.cell
    free := non (Ne.symm nL) I.free
    freeC := fun x c q => non (cells x c q) (I.freeC x c q)
    pin := fun p hp => let ⟨h1, h2, h3⟩ := I.pin p hp; ⟨h1, non (np p hp) h2, h3⟩
    hok := HOk.laidN I.hok (fun _ _ q => q) na (errO_ok ha hz hd)
    len := I.len }
theorem inv_in (I : L2.Inv X pins σ H s) (a : Addr) : L2.Inv (X.suite a (X.pn ++ pins)) [] σ H s :=
  { ok := I.ok.suite a _, os := I.os, bare := I.bare, base := I.base, loc := I.loc, cell := I.cell, free := I.free, freeC := I.freeC, pin := fun p hp => I.pin p (by simpa using hp), hok := I.hok, len := I.len }
theorem inv_out {a : Addr} (I : L2.Inv (X.suite a (X.pn ++ pins)) [] σ H s) (ok : X.Ok) : L2.Inv X pins σ H s :=
  { ok := ok, os := I.os, bare := I.bare, base := I.base, loc := I.loc, cell := I.cell, free := I.free, freeC := I.freeC, pin := fun p hp => I.pin p (by simpa using hp), hok := I.hok, len := I.len }
end
/-- around a body nothing is let out -/
theorem takesN0 {X : Cx} : L2N.Takes X (fun _ _ _ _ => False) := fun _ _ x => by
  obtain ⟨_, _, _, _, _, _, _, _, _, _, _, _, _, _, _, _, z⟩ := x
  exact z.elim
theorem okXN {P : Program} {w : World} {K : PySem.W.Frag} {mg : Str → Option Value} {base : Heap} {x qual : Str} {st : Stmt} {f : Addr} {fd : FuncData} {N ps : List Str} {k : Nat} {sp : Sp} (F : Fun K x qual st f fd) (S : FnScope N ps (defScope st)) (len : ∀ vs H Q E, sp vs H Q E → vs.length = ps.length)
    (hbody : ∀ (cdv : Value) (A : Around) (outer : List Env) (s : Shared) (H : Hp) (vs : List V) (Q : VK) (E : XK), Room k (A.deeper (envOfC qual (defScope st) s.heap.objs.size f cdv)) → sp vs H Q E →
      ∃ t, PSs (cxOf (L2N.CX P w) P w K mg base N qual (defScope st) f cdv A outer s H E) (defBody st) t ∧ t { nx := fun _ H' => Q .non H', rt := Q } (L2.start N vs) H) : FnOk P w K mg base (L2N.CX P w) (k + 1) f fd ps sp := by
  obtain ⟨oc, od, kV, doc, pm, an, cdv, ct, osl, rfl, lk, hcd⟩ := F.ex
  exact fn_of lk hcd S len fun A outer s H vs Q E hr hsp => hbody cdv A outer s H vs Q E hr hsp
/-- what the clause «except x as n» wishes: slot i is n's, the error is tracked -/
def wErr (K : PySem.W.Frag) (c : Value) (i : Nat) (ts : Addr → Value → Option Addr → TS) (Wo : WX) (D : Ends) : WX := fun cls d σ H =>
  ∃ b, PySem.W.exmOne K cls c = some b ∧ (b = true → ∀ a, H a = none → ts a cls d { nx := fun σ' H' => D.nx (σ'.set i none) H', rt := D.rt, bk := fun σ' H' => D.bk (σ'.set i none) H', ct := fun σ' H' => D.ct (σ'.set i none) H' } (σ.set i (some (.ref a))) (upd H a (ErrO cls d a))) ∧
    (b = false → Wo cls d σ H)
section
variable {X : Cx} {x n : Str} {c : Value} {i : Nat} {body suite : List Stmt} {b₀ : Stmt} {np pos pos' : Pos} {tb : WX → TS} {ts : Addr → Value → Option Addr → TS} {Wo : WX}
/-- try: body, except x as n: suite; the error is tracked in the suite and behind it -/
theorem ps_tryT (hs : X.stack = X.env :: X.outer) (hf : X.env.frame = some X.env.locals) (hx : X.ex = []) (hN : X.N.Nodup) (hi : X.N[i]? = some n) (hln : X.env.kindOf n = some .local) (hc : Names X x c) (tk : L2N.Takes X Wo)
    (hb : ∀ (W : WX) (pn : List (Addr × Obj)) (xe : Value → Shared → Prop), L2N.Takes (X.tr pn xe) W → PassesOwn (model X.prog X.w) X.A X.env xe → PSs (X.tr pn xe) body (tb W))
    (hsu : ∀ (a : Addr) (cls : Value) (d : Option Addr) (pn : List (Addr × Obj)), PSs (X.suite a pn) (b₀ :: suite) (ts a cls d)) :
    PS X (.Try body [.ExceptHandler (some (.Name x np)) (some n) (b₀ :: suite) pos'] [] [] pos) (fun D σ H => tb (wErr X.K c i ts Wo D) D σ H) := by
  constructor
  intro pins s σ H D I h
  have fr : X.A.frames = some (X.env :: X.outer) := by rw [I.ok.frames, hs]
  refine wpAny_Try_except (wpAny_mono ((hb (wErr X.K c i ts Wo D) (X.pn ++ pins) _ (fun u s' hu => ?_) PassesOwn.looking).run [] s σ H D (I.toTry _) h) (fun f s1 hq => ?_) fun _ _ z => z)
  · obtain ⟨a, B, sI, pins', σ', H', cls, d, rfl, J', nb, up, sky, na, os, ag, b, hb1, yes, no⟩ := hu
    have J : L2.Inv X pins σ' H' sI := J'.ofTry I.ok
    rw [show (X.tr (X.pn ++ pins) _).stack = X.env :: X.outer from hs] at sky
    show wpAny (model X.prog X.w) X.A (noteFrame (.ref a) X.env) _ _ _
    refine L2N.Sky.land L2N.Zn.steady fr hf sky fun h3 fl3 up3 => ?_
    have J3 : L2.Inv X pins σ' H' { s' with heap := h3 } := J.landed nb fl3.1 (up.trans up3) os ag
    obtain ⟨o3, v3, g3, z3, d3⟩ := fl3.there
    have nfr : a ∉ frs (X.env :: X.outer) := fun hm => by
      obtain ⟨_, o', e', hn⟩ := fl3.2.2.1.mem hm
      rw [g3] at e'
      cases e'
      exact hn _ d3
    have nI : sI.heap.get? a = none := by
      cases q : sI.heap.get? a with
      | none => rfl
      | some o =>
        have z := nb a o q (by show a ∉ frs X.stack; rw [hs]; exact nfr)
        rw [fl3.2.1] at z
        cases z
    have n0 : X.s_0.heap.get? a = none := by
      cases q : X.s_0.heap.get? a with
      | none => rfl
      | some o =>
        obtain ⟨o', z⟩ := J.base.there a o q (by rw [hx]; exact fun y => nomatch y)
        rw [nI] at z
        cases z
    have nL : a ≠ X.env.locals := fun z => nfr (List.mem_filterMap.mpr ⟨X.env, List.mem_cons_self, by rw [hf, z]⟩)
    have npn : ∀ p ∈ X.pn ++ pins, p.1 ≠ a := fun p hp z => by
      have y := (J.pin p hp).1
      rw [z, nI] at y
      cases y
    have LT : PySem.W.Looks (model X.prog X.w) h3 (typeOf (.ref a)) cls := fun A Q E s k q => wpAny_typeOf_ref (k _ _ g3) (by rw [z3.1]; exact q)
    have S3 := inv_in J3 a
    refine wpAny_handleBy_cons (codeAny_handlers_test ?_) (by intro q; cases q)
    have test : ∀ {Q : Value → Shared → Prop} {E : Value → Shared → Prop}, Q c { s' with heap := h3 } → wpAny (model X.prog X.w) (X.A.mark (some (.ref a))) (eval (.Name x np) X.env) Q E { s' with heap := h3 } := fun {Q E} q => by
      obtain ⟨hg, hdbg, hm⟩ := hc
      rcases hm with hm | ⟨hm, hv, hnn⟩
      · exact ld_glob (X := X.suite a (X.pn ++ pins)) S3 hg hm q hdbg
      · exact ld_blt (X := X.suite a (X.pn ++ pins)) S3 hg hm hv q hnn hdbg
    refine test ((PySem.W.exm_one (M := model X.prog X.w) J3.kIn LT hb1).here ?_)
    cases b with
    | true =>
      refine codeAny_handlers_suite_as (HandSPX.lands_againZ fl3 fun h4 fl4 up4 => ?_)
      have J4 : L2.Inv X pins σ' H' { s' with heap := h4 } := J.landed nb fl4.1 ((up.trans up3).trans up4) os ag
      obtain ⟨o4, v4, g4, z4, d4⟩ := fl4.there
      have T4 := inv_in (inv_track J4 g4 d4 z4 na n0 nL npn) a
      refine store_ok (X := X.suite a (X.pn ++ pins)) (v := .ref a) T4 hN hi (.inl hln) rfl (fun s5 T5 => ?_) (.inr hln)
      refine wpAny_mono ((hsu a cls d (X.pn ++ pins)).run [] s5 _ _ _ T5 (yes rfl a na)) (fun f s6 hq => ?_) (fun _ _ z => z.elim)
      have fin : ∀ {σ6 : L2.St} {H6 : Hp} {Q : Shared → Prop}, L2.Inv (X.suite a (X.pn ++ pins)) [] σ6 H6 s6 → (∀ s7, L2.Inv X pins (σ6.set i none) H6 s7 → Q s7) →
          wpAny (model X.prog X.w) X.A (do bindName X.env n .none; unbindBehindTheSuite X.env n pos') (fun _ s7 => Q s7) X.xe s6 := fun {σ6 H6 Q} T6 q => gone_ok (inv_out T6 I.ok) hN hi hln q
      cases f with
      | next =>
        obtain ⟨σ6, H6, T6, q6⟩ := hq
        exact fin T6 fun s7 J7 => ⟨_, _, J7, q6⟩
      | brk =>
        obtain ⟨σ6, H6, T6, q6⟩ := hq
        exact fin T6 fun s7 J7 => ⟨_, _, J7, q6⟩
      | cont =>
        obtain ⟨σ6, H6, T6, q6⟩ := hq
        exact fin T6 fun s7 J7 => ⟨_, _, J7, q6⟩
      | ret u =>
        obtain ⟨v6, σ6, H6, T6, r6, q6⟩ := hq
        exact fin T6 fun s7 J7 => ⟨_, _, _, J7, r6, q6⟩
    | false =>
      show wpAny _ X.A (handleBy (.ref a) X.env []) _ _ _
      refine wpAny_handleBy_nil ?_
      have whole := fl3
      obtain ⟨_, _, _, oe, vs, T, oT, ts', he, hz, hd, h1, hr⟩ := fl3
      unfold PySem.passOn
      refine wpAny_bind (wpAny_field he hd h1 ?_)
      rw [if_neg (show ¬ ((Value.ref T == Value.none) = true) from by simp)]
      have last : wpAny (model X.prog X.w) X.A (setFlight (.ref a) X.env.frame) (fun _ s4 => wpAny (model X.prog X.w) X.A (throw (.ref a) : Sem Flow) (SP X pins D) X.xe s4) X.xe { s' with heap := h3 } := by
        rw [hf]
        refine HandSPX.setFlight_upZ whole fun h4 hh4 up4 => wpAny_throw (tk _ _ ?_)
        exact ⟨a, B, sI, pins, σ', H', cls, d, rfl, J, nb, (up.trans up3).trans up4, .inr (.inr (by rw [hs]; exact hh4)), na, os, ag, no rfl⟩
      first
        | exact wpAny_bind (wpAny_pure (wpAny_bind last))
        | exact wpAny_bind last
  · cases f with
    | next =>
      obtain ⟨σ', H', J', q⟩ := hq
      exact wpAny_execs_nil ⟨σ', H', J'.ofTry I.ok, q⟩
    | brk =>
      obtain ⟨σ', H', J', q⟩ := hq
      exact ⟨σ', H', J'.ofTry I.ok, q⟩
    | cont =>
      obtain ⟨σ', H', J', q⟩ := hq
      exact ⟨σ', H', J'.ofTry I.ok, q⟩
    | ret u =>
      obtain ⟨v, σ', H', J', r, q⟩ := hq
      exact ⟨v, σ', H', J'.ofTry I.ok, r, q⟩
end

/-! ### statements that may raise -/
abbrev NX3 := Str → E3 → S3 → Prop
abbrev TSX3 := N3 → NX3 → E3 → S3 → Prop
abbrev TEX3 := E3 → S3 → K3 → NX3 → Prop
abbrev Sp3X := List D → S3 → K3 → (Str → S3 → Prop) → Prop
/-- what is wanted behind an error of the class that is called c -/
def EndX (K : PySem.W.Frag) (w : W3) (X3 : NX3) (W : WX) : Prop := ∀ (w' : W3) (c : Str) (C : Addr) (σ' : L2.St) (H' : Hp) (env' : E3) (S' : S3), Ex3 w w' → Rel3 K w' H' S' → EnvR K w' σ' env' → PySem.W.nsIn K mainGlobals c = some (some (.ref C)) → X3 c env' S' → W (.ref C) none σ' H'
def EndXc (K : PySem.W.Frag) (w : W3) (X3 : Str → S3 → Prop) (E : XK) : Prop := ∀ (w' : W3) (c : Str) (C : Addr) (H' : Hp) (S' : S3), Ex3 w w' → Rel3 K w' H' S' → PySem.W.nsIn K mainGlobals c = some (some (.ref C)) → X3 c S' → E (.ref C) none H'
theorem EndX.mono {K : PySem.W.Frag} {w w' : W3} {X3 : NX3} {W : WX} (h : EndX K w X3 W) (e : Ex3 w w') : EndX K w' X3 W := fun w2 c C σ' H' env' S' x => h w2 c C σ' H' env' S' (e.trans x)
def lowSX (K : PySem.W.Frag) (W : WX) (t : TSX3) : TS := fun D2 σ H => ∃ w env S D3 X3, Rel3 K w H S ∧ EnvR K w σ env ∧ t D3 X3 env S ∧ EndS K w D3 D2 ∧ EndX K w X3 W
def lowEX (K : PySem.W.Frag) (W : WX) (t : TEX3) : TE := fun σ H R => ∃ w env S Q X3, Rel3 K w H S ∧ EnvR K w σ env ∧ t env S Q X3 ∧ EndE K w Q R ∧ EndX K w X3 W
def lowCX (K : PySem.W.Frag) (sp : Sp3X) : List V → Hp → VK → XK → Prop := fun vs H Q E => ∃ w S ds Q3 X3, Rel3 K w H S ∧ RepDs K w vs ds ∧ sp ds S Q3 X3 ∧ EndE K w Q3 Q ∧ EndXc K w X3 E
abbrev QSX (X : Cx) (W : WX) (st : Stmt) (t : TSX3) : Prop := PS X st (lowSX X.K W t)
abbrev QSsX (X : Cx) (W : WX) (sts : List Stmt) (t : TSX3) : Prop := PSs X sts (lowSX X.K W t)
abbrev QEX (X : Cx) (W : WX) (e : Expr) (t : TEX3) : Prop := PE X e (lowEX X.K W t)
/-- an error class of the program, called c -/
structure ErrC (K : PySem.W.Frag) (mg : Str → Option Value) (c : Str) : Prop where
  ex : ∃ C : Addr, mg c = some (.ref C) ∧ PySem.W.nsIn K mainGlobals c = some (some (.ref C)) ∧ PySem.W.keepIn K (.ref C) = true ∧ PySem.W.excIn K C [.type "ValueError", .type "Exception", .type "BaseException", .type "object"] "ValueError.__new__" = true ∧
    PySem.W.subIn K (.ref C) (.type "BaseException") = some true ∧ PySem.W.typeIn K (.ref C) = some (.type "type")
/-- a def that keeps a promise and may raise -/
structure Ok3X (P : Program) (w : World) (K : PySem.W.Frag) (mg : Str → Option Value) (base : Heap) (k : Nat) (x : Str) (sp : Sp3X) : Prop where
  ex : ∃ f fd ps, mg x = some (.ref f) ∧ PySem.W.keepIn K (.ref f) = true ∧ Binds K fd ps [] ∧ FnOk P w K mg base (L2N.CX P w) k f fd ps (lowCX K sp)
def tLift (t : TS3) : TSX3 := fun D _ env S => t D env S
def tSeqX (t u : TSX3) : TSX3 := fun D X env S => t { D with nx := fun e s => u D X e s } X env S
def tIfX (c : TT3) (t u : TSX3) : TSX3 := fun D X env S => c env S fun b S1 => if b = true then t D X env S1 else u D X env S1
def tRaiseX (c : Str) : TSX3 := fun _ X env S => X c env S
def tCallX (sp : Sp3X) (ta : TA3) : TEX3 := fun env S Q X => ta env S fun ds S1 => sp ds S1 Q fun c S2 => X c env S2
def tDropX (te : TEX3) : TSX3 := fun D X env S => te env S (fun _ S1 => D.nx env S1) X
def tRetX (te : TEX3) : TSX3 := fun D X env S => te env S D.rt X
def tSetX (i : Nat) (te : TEX3) : TSX3 := fun D X env S => te env S (fun x S1 => D.nx (set3 env i x) S1) X
section
variable {X : Cx} {W : WX} {st : Stmt} {rest a b : List Stmt} {t u : TSX3} {e c : Expr} {es : List Expr} {te : TEX3} {tc : TT3} {ta : TA3} {pos p p2 pos' : Pos} {x m : Str} {k j : Nat}
theorem qsx_lift {t : TS3} (h : QS X st t) : QSX X W st (tLift t) := L2.PS.imp h fun D σ H ⟨w, env, S, D3, X3, r, en, t, q, _⟩ => ⟨w, env, S, D3, r, en, t, q⟩
theorem qssx_lift {t : TS3} (h : QSs X rest t) : QSsX X W rest (tLift t) := L2.PSs.imp h fun D σ H ⟨w, env, S, D3, X3, r, en, t, q, _⟩ => ⟨w, env, S, D3, r, en, t, q⟩
theorem qssx_one (h : QSX X W st t) : QSsX X W [st] t := pss_one h
theorem qssx_cons (h1 : QSX X W st t) (h2 : QSsX X W rest u) : QSsX X W (st :: rest) (tSeqX t u) := (pss_cons h1 h2).imp fun D σ H ⟨w, env, S, D3, X3, r, en, t, q, qx⟩ =>
  ⟨w, env, S, _, X3, r, en, t, ⟨fun w1 σ1 H1 env1 S1 e1 r1 en1 t1 => ⟨w1, env1, S1, D3, X3, r1, en1, t1, q.mono e1, qx.mono e1⟩, q.rt, q.bk, q.ct⟩, qx⟩
theorem qsx_if (hc : QT X c tc) (ha : QSsX X W a t) (hb : QSsX X W b u) : QSX X W (.If c a b pos) (tIfX tc t u) := (ps_if hc ha hb).imp fun D σ H ⟨w, env, S, D3, X3, r, en, t, q, qx⟩ => by
  refine ⟨w, env, S, _, r, en, t, fun w1 b H1 S1 e1 r1 t1 => ?_⟩
  cases b with
  | true =>
    rw [if_pos rfl] at t1 ⊢
    exact ⟨w1, env, S1, D3, X3, r1, en.mono e1, t1, q.mono e1, qx.mono e1⟩
  | false =>
    rw [if_neg Bool.false_ne_true] at t1 ⊢
    exact ⟨w1, env, S1, D3, X3, r1, en.mono e1, t1, q.mono e1, qx.mono e1⟩
theorem qsx_raise (F : ErrC X.K X.mg x) (hc : X.calm = true) (tk : L2N.Takes X W) (hg : Gl X x) (hdb : (x == ("__debug__" : Str)) = false := by decide) : QSX X W (.Raise (some (.Call (.Name x p) [.Constant (.str m) j p2] [] pos')) none pos) (tRaiseX x) := by
  obtain ⟨C, h1, h2, h3, h4, h5, h6⟩ := F.ex
  exact (L2N.ps_raise hc tk (L2N.pmk_own PySem.F.excBase_ValueError h4 h1 h3 (raises_own h5 h6) hg hdb)).imp fun D σ H ⟨w, env, S, D3, X3, r, en, t, q, qx⟩ => qx w x C σ H env S (Ex3.refl w) r en h2 t
theorem qex_call {sp : Sp3X} (F : Ok3X X.prog X.w X.K X.mg X.base k x sp) (tk : L2N.Takes X W) (hr : Room k X.A) (hg : Gl X x) (ha : QA X (e :: es) ta) (hdb : (x == ("__debug__" : Str)) = false := by decide) (he : starEach (e :: es) X.env = (false, eval e X.env) :: starEach es X.env := by rfl) (hpl : (backTo pos (starEach es X.env)).any (·.1) = false := by rfl) :
    QEX X W (.Call (.Name x p) (e :: es) [] pos) (tCallX sp ta) := by
  obtain ⟨f, fd, ps, hm, kp, b, ok⟩ := F.ex
  exact (pe_callS (E := WE W) ok hr hg hm kp b (fun σ => L2N.passAt tk σ) ha hdb he hpl).imp fun σ H R ⟨w, env, S, Q, X3, r, en, t, q, qx⟩ =>
    ⟨w, env, S, _, r, en, t, fun w1 vs ds H1 S1 e1 r1 p1 t1 => ⟨w1, S1, ds, Q, _, r1, p1, t1, q.mono e1, fun w2 c C H2 S2 e2 r2 n2 x2 => qx w2 c C σ H2 env S2 (e1.trans e2) r2 (en.mono (e1.trans e2)) n2 x2⟩⟩
/-- where no error comes of it -/
theorem qe_callX {sp : Sp3X} (F : Ok3X X.prog X.w X.K X.mg X.base k x sp) (hr : Room k X.A) (hg : Gl X x) (ha : QA X (e :: es) ta) (hdb : (x == ("__debug__" : Str)) = false := by decide) (he : starEach (e :: es) X.env = (false, eval e X.env) :: starEach es X.env := by rfl) (hpl : (backTo pos (starEach es X.env)).any (·.1) = false := by rfl) :
    QE X (.Call (.Name x p) (e :: es) [] pos) (tCB3 (fun ds S Q => sp ds S Q fun _ _ => False) ta) := by
  exact L2.PE.imp (qex_call (W := fun _ _ _ _ => False) F takesN0 hr hg ha hdb he hpl) fun σ H R ⟨w, env, S, Q, r, en, t, q⟩ => ⟨w, env, S, Q, fun _ _ _ => False, r, en, t, q, fun _ _ _ _ _ _ _ _ _ _ _ z => z⟩
theorem qsx_expr (he : QEX X W e te) (hs : swapsWith e none pos.line X.env = pure false := by rfl) : QSX X W (.Expr e pos) (tDropX te) := (ps_expr he hs).imp fun D σ H ⟨w, env, S, D3, X3, r, en, t, q, qx⟩ =>
  ⟨w, env, S, _, X3, r, en, t, fun w1 v d H1 S1 e1 r1 p1 t1 => q.nx w1 σ H1 env S1 e1 r1 (en.mono e1) t1, qx⟩
theorem qsx_ret (he : QEX X W e te) : QSX X W (.Return (some e) pos) (tRetX te) := (ps_ret he).imp fun D σ H ⟨w, env, S, D3, X3, r, en, t, q, qx⟩ => ⟨w, env, S, _, X3, r, en, t, q.rt, qx⟩
theorem qsx_set {i : Nat} (hN : X.N.Nodup) (hi : X.N[i]? = some x) (hx : Loc X.env.scope x) (he : QEX X W e te) (hs : swapsWith e (some (.Name x pos')) pos.line X.env = pure false := by rfl) (hf : X.fn x = true ∨ X.env.scope.names.lookup x = some .local := by first | exact .inl rfl | exact .inr rfl | assumption) :
    QSX X W (.Assign [.Name x pos'] e pos) (tSetX i te) := (ps_set hN hi hx he hs hf).imp fun D σ H ⟨w, env, S, D3, X3, r, en, t, q, qx⟩ =>
  ⟨w, env, S, _, X3, r, en, t, fun w1 v d H1 S1 e1 r1 p1 t1 => q.nx w1 _ H1 _ S1 e1 r1 ((en.mono e1).set i p1) t1, qx⟩
end
/-- a def's error: the store's last objects are forgotten -/
def FinX (S : S3) (X : Str → S3 → Prop) : NX3 := fun c _ S' => ∃ L, S.length ≤ L ∧ X c (S'.take L)
theorem finX {S : S3} {X : Str → S3 → Prop} {c : Str} {e : E3} (h : X c S) : FinX S X c e S := ⟨S.length, Nat.le_refl _, by rw [List.take_length]; exact h⟩
section
variable {P : Program} {w : World} {K : PySem.W.Frag} {mg : Str → Option Value} {base : Heap}
theorem takesF {N : List Str} {qual : Str} {scope : Scope} {f : Addr} {cdv : Value} {A : Around} {outer : List Env} {s : Shared} {H : Hp} {E : XK} : L2N.Takes (cxOf (L2N.CX P w) P w K mg base N qual scope f cdv A outer s H E) (fun cls d _ H' => E cls d H') := L2N.takes_of rfl rfl rfl rfl
theorem passF {N : List Str} {qual : Str} {scope : Scope} {f : Addr} {cdv : Value} {A : Around} {outer : List Env} {s : Shared} {H : Hp} {E : XK} : PassesOwn (model P w) (A.deeper (envOfC qual scope s.heap.objs.size f cdv)) (envOfC qual scope s.heap.objs.size f cdv) (cxOf (L2N.CX P w) P w K mg base N qual scope f cdv A outer s H E).xe :=
  passes_of (X := cxOf (L2N.CX P w) P w K mg base N qual scope f cdv A outer s H E) rfl
/-- THE RULE for a def that may raise -/
theorem Ok3X.mk' {x : Str} {st : Stmt} {f : Addr} {fd : FuncData} {N ps : List Str} {k : Nat} {sp : Sp3X} {t3 : TSX3} (F : Fun K x x st f fd) (hm : mg x = some (.ref f)) (b : Binds K fd ps []) (sc : FnScope N ps (defScope st))
    (hlen : ∀ ds S Q E, sp ds S Q E → ds.length = ps.length)
    (body : ∀ (cdv : Value) (A : Around) (outer : List Env) (s : Shared) (H : Hp) (E : XK), Room k (A.deeper (envOfC x (defScope st) s.heap.objs.size f cdv)) → QSsX (cxOf (L2N.CX P w) P w K mg base N x (defScope st) f cdv A outer s H E) (fun cls d _ H' => E cls d H') (defBody st) t3)
    (read : ∀ ds S Q E, sp ds S Q E → t3 { nx := fun _ S' => Fin3 S Q (.p .none) S', rt := Fin3 S Q } (FinX S E) (env0 N.length ds) S) : Ok3X P w K mg base (k + 1) x sp := by
  refine ⟨f, fd, ps, hm, F.kp, b, okXN F sc (fun vs H Q E h => ?_) (fun cdv A outer s H vs Q E hr h => ?_)⟩
  · obtain ⟨w3, S, ds, Q3, X3, r, rd, hs, q, _⟩ := h
    rw [RepDs.length rd]
    exact hlen ds S Q3 X3 hs
  · obtain ⟨w3, S, ds, Q3, X3, r, rd, hs, q, qx⟩ := h
    refine ⟨_, body cdv A outer s H E hr, ?_⟩
    have cut : ∀ {w4 : W3} {L : Nat}, Ex3 w3 w4 → S.length ≤ L → Ex3 w3 ⟨w4.al.take L, w4.h, w4.pn⟩ := fun {w4 L} e4 hL => by
      refine ⟨⟨?_, e4.h⟩, e4.pn⟩
      obtain ⟨t, ht⟩ := e4.al
      refine ⟨t.take (L - w3.al.length), ?_⟩
      show w4.al.take L = _
      rw [ht, List.take_append, List.take_of_length_le (by rw [r.len]; exact hL)]
    have fin : ∀ (w4 : W3) (v : V) (d : D) (H' : Hp) (S' : S3), Ex3 w3 w4 → Rel3 K w4 H' S' → RepD K w4 v d → Fin3 S Q3 d S' → Q v H' := fun w4 v d H' S' e4 r4 p4 ⟨L, hL, hb, h4⟩ => by
      refine q ⟨w4.al.take L, w4.h, w4.pn⟩ v d H' (S'.take L) (cut e4 hL) (r4.shrink L) ?_ h4
      cases d with
      | p d => exact p4
      | exc c => exact p4
      | loc m =>
        obtain ⟨a, h5, h6⟩ := p4
        exact ⟨a, by show (w4.al.take L)[m]? = _; rw [List.getElem?_take_of_lt hb]; exact h5, h6⟩
    exact ⟨w3, _, S, _, _, r, env_start rd, read ds S Q3 X3 hs, ⟨fun w4 σ' H' env' S' e4 r4 _ h4 => fin w4 .non (.p .none) H' S' e4 r4 rep_non h4, fun w4 v d H' S' e4 r4 p4 h4 => fin w4 v d H' S' e4 r4 p4 h4,
      fun _ _ _ _ _ _ _ _ h => h.elim, fun _ _ _ _ _ _ _ _ h => h.elim⟩, fun w4 c C σ' H' env' S' e4 r4 _ n4 ⟨L, hL, h4⟩ => qx _ c C H' _ (cut e4 hL) (r4.shrink L) n4 h4⟩
end
/-! ### try: body, except x as n: suite -/
def tTry3 (tbl : Str → Bool) (i : Nat) (tb : TSX3) (ts : TS3) : TS3 := fun D env S => tb D (fun c e s => tbl c = true ∧ ts { nx := fun e1 s1 => D.nx (wipe3 e1 [i]) s1, rt := D.rt, bk := fun e1 s1 => D.bk (wipe3 e1 [i]) s1, ct := fun e1 s1 => D.ct (wipe3 e1 [i]) s1 } (set3 e i (.exc c)) s) env S
section
variable {X : Cx} {x n : Str} {cv : Value} {i : Nat} {body suite : List Stmt} {b₀ : Stmt} {np pos pos' : Pos} {tb : TSX3} {ts : TS3} {tbl : Str → Bool}
theorem qs_try (hs : X.stack = X.env :: X.outer) (hf : X.env.frame = some X.env.locals) (hx : X.ex = []) (hN : X.N.Nodup) (hi : X.N[i]? = some n) (hln : X.env.kindOf n = some .local) (hc : Names X x cv)
    (ht : ∀ (c : Str) (C : Addr), PySem.W.nsIn X.K mainGlobals c = some (some (.ref C)) → tbl c = true → PySem.W.exmOne X.K (.ref C) cv = some true)
    (hb : ∀ (W : WX) (pn : List (Addr × Obj)) (xe : Value → Shared → Prop), L2N.Takes (X.tr pn xe) W → PassesOwn (model X.prog X.w) X.A X.env xe → QSsX (X.tr pn xe) W body tb)
    (hsu : ∀ (a : Addr) (pn : List (Addr × Obj)), QSs (X.suite a pn) (b₀ :: suite) ts) :
    QS X (.Try body [.ExceptHandler (some (.Name x np)) (some n) (b₀ :: suite) pos'] [] [] pos) (tTry3 tbl i tb ts) :=
  (ps_tryT (Wo := fun _ _ _ _ => False) (tb := fun W => lowSX X.K W tb) (ts := fun _ _ _ => lowS X.K ts) hs hf hx hN hi hln hc takesN0 hb (fun a _ _ pn => hsu a pn)).imp fun D σ H ⟨w, env, S, D3, r, en, t, q⟩ => by
    refine ⟨w, env, S, D3, _, r, en, t, q, fun w1 c C σ1 H1 env1 S1 e1 r1 en1 n1 ⟨h1, h2⟩ => ?_⟩
    refine ⟨true, ht c C n1 h1, fun _ a na => ?_, fun z => by cases z⟩
    obtain ⟨r2, e2⟩ := r1.frz (u := ErrO (.ref C) none a) na trivial
    have er : RepD X.K ⟨w1.al, upd w1.h a (ErrO (.ref C) none a), w1.pn⟩ (.ref a) (.exc c) := ⟨a, C, _, rfl, n1, upd_same, fun g hg => hg, fun _ z => nomatch z⟩
    refine ⟨_, _, S1, _, r2, (en1.mono e2).set i er, h2, ?_⟩
    have e12 := e1.trans e2
    exact ⟨fun w3 σ3 H3 env3 S3 e3 r3 en3 t3 => q.nx w3 _ H3 _ S3 (e12.trans e3) r3 (en3.wipe [i]) t3, q.rt.mono e12, fun w3 σ3 H3 env3 S3 e3 r3 en3 t3 => q.bk w3 _ H3 _ S3 (e12.trans e3) r3 (en3.wipe [i]) t3, fun w3 σ3 H3 env3 S3 e3 r3 en3 t3 => q.ct w3 _ H3 _ S3 (e12.trans e3) r3 (en3.wipe [i]) t3⟩
end

/-! ### isinstance(e, T), isinstance(e, (T, ..)), e an error -/
/-- for each error class whether its errors are instances of cv -/
structure XTab (K : PySem.W.Frag) (cvs : List Value) (l : List (Str × Bool)) : Prop where
  at_ : ∀ (c : Str) (C : Addr) (b : Bool), PySem.W.nsIn K mainGlobals c = some (some (.ref C)) → l.lookup c = some b → ExcC K C ∧ PySem.W.kitAny K (.ref C) cvs = some b
theorem XTab.nil {K : PySem.W.Frag} {cvs : List Value} : XTab K cvs [] := ⟨fun _ _ _ _ h => by cases h⟩
theorem XTab.cons {K : PySem.W.Frag} {cvs : List Value} {l : List (Str × Bool)} {c : Str} {C : Addr} {b : Bool} (h1 : PySem.W.nsIn K mainGlobals c = some (some (.ref C))) (E : ExcC K C) (k : PySem.W.kitAny K (.ref C) cvs = some b) (r : XTab K cvs l) : XTab K cvs ((c, b) :: l) :=
  ⟨fun c' C' b' g1 g2 => by
    rw [List.lookup_cons] at g2
    split at g2
    · rename_i hc
      have e : c' = c := by simpa using hc
      subst e
      cases g2
      have := h1.symm.trans g1
      simp only [Option.some.injEq, Value.ref.injEq] at this
      subst this
      exact ⟨E, k⟩
    · exact r.at_ c' C' b' g1 g2⟩
theorem kitAny_one {K : PySem.W.Frag} {t c : Value} {b : Bool} (h : PySem.W.kitAny K t [c] = some b) : PySem.W.kitOne K t c = some b := by
  unfold PySem.W.kitAny at h
  cases q : PySem.W.kitOne K t c with
  | none => rw [q] at h; cases h
  | some v =>
    rw [q] at h
    cases v with
    | true => exact h
    | false => exact h
section
variable {X : Cx}
theorem err_inst {pins : List (Addr × Obj)} {σ : L2.St} {H : Hp} {s : Shared} {a C : Addr} {φ : Heap → Prop} (I : L2.Inv X pins σ H s) (ha : H a = some (.ext φ)) (hφ : ∀ g, φ g → ∃ oe vs, g.get? a = some oe ∧ Zc (.ref C) none oe ∧ oe.data = .fields vs) :
    ∃ oe, PySem.W.InstAt s.heap a oe C none := by
  obtain ⟨h1, _, _⟩ := I.hok a _ ha
  obtain ⟨oe, vs, g1, g2, g3⟩ := hφ _ h1
  refine ⟨oe, ?_⟩
  obtain ⟨oc, od, oda, osl⟩ := oe
  obtain ⟨z1, z2⟩ := g2
  dsimp only at z1 z2 g3
  subst z1 z2 g3
  exact ⟨g1, rfl, rfl, trivial⟩
/-- the error at a, of the class C -/
def ErrAt (H : Hp) (a C : Addr) : Prop := ∃ φ : Heap → Prop, H a = some (.ext φ) ∧ ∀ g, φ g → ∃ oe vs, g.get? a = some oe ∧ Zc (.ref C) none oe ∧ oe.data = .fields vs
theorem call_isX : CallR X (.builtin "isinstance") (fun xs H Q => ∃ (a C : Addr) (y : V) (cv : Value) (b : Bool), xs = [.ref a, y] ∧ ErrAt H a C ∧ ExcC X.K C ∧ (∀ u, RelV y u → u = cv) ∧ PySem.W.kitOne X.K (.ref C) cv = some b ∧ Q (.bl b) H) := by
  intro pins s σ H xs us Q I r h
  obtain ⟨a, C, y, cv, b, rfl, ⟨φ, ha, hφ⟩, E, hy, hk, q⟩ := h
  cases r with
  | cons rx rr =>
    cases rr with
    | cons ry rr =>
      cases rr
      cases rx
      have e := hy _ ry
      subst e
      obtain ⟨oe, J⟩ := err_inst I ha hφ
      exact PySem.W.kia_one (PySem.W.handS_kitx_exc E.hg E.hk E.hs E.hd E.ha E.hn E.ht E.hm) I.kIn J hk (fun z => nomatch z) fun tk => ⟨.bl b, H, I.kept (t' := tk) fun _ _ z => z, rfl, q⟩
theorem refs_vals : ∀ {Ds : List Addr} {us : List Value}, Vals (Ds.map V.ref) us → us = Ds.map Value.ref
  | [], _, .nil => rfl
  | _ :: _, _, .cons r t => by
    cases r
    rw [refs_vals t]
    rfl
theorem call_isXT : CallR X (.builtin "isinstance") (fun xs H Q => ∃ (a C p : Addr) (Ds : List Addr) (b : Bool), xs = [.ref a, .ref p] ∧ ErrAt H a C ∧ ExcC X.K C ∧ H p = some (.tup (Ds.map V.ref)) ∧ PySem.W.kitAny X.K (.ref C) (Ds.map Value.ref) = some b ∧ Q (.bl b) H) := by
  intro pins s σ H xs us Q I r h
  obtain ⟨a, C, p, Ds, b, rfl, ⟨φ, ha, hφ⟩, E, hp, hk, q⟩ := h
  cases r with
  | cons rx rr =>
    cases rr with
    | cons ry rr =>
      cases rr
      cases rx
      cases ry
      obtain ⟨oe, J⟩ := err_inst I ha hφ
      obtain ⟨its, rv, ⟨o, ho, hc, n, hd⟩, _⟩ := I.tuple (.inl (.inl hp))
      obtain ⟨oc, od, oda, osl⟩ := o
      dsimp only at hc hd
      subst hc hd
      have e := refs_vals rv
      subst e
      exact PySem.W.kia_tup (PySem.W.handS_kitx_exc E.hg E.hk E.hs E.hd E.ha E.hn E.ht E.hm) I.kIn J ho hk (fun z => nomatch z) fun tk => ⟨.bl b, H, I.kept (t' := tk) fun _ _ z => z, rfl, q⟩
end
def tIsX (l : List (Str × Bool)) (te : TE3) : TE3 := fun env S Q => te env S fun x S1 => match x with
  | .exc c _ => (match l.lookup c with
    | some b => Q (.p (.bool b)) S1
    | none => False)
  | _ => False
theorem repX_low {K : PySem.W.Frag} {w : W3} {H : Hp} {S : S3} {v : V} {c : Str} {o : Option Addr} (r : Rel3 K w H S) (p : RepD K w v (.exc c o)) : ∃ a C, v = .ref a ∧ PySem.W.nsIn K mainGlobals c = some (some (.ref C)) ∧ ErrAt H a C := by
  obtain ⟨a, C, φ, h1, h2, h3, h4, _⟩ := p
  exact ⟨a, C, h1, h2, φ, r.sub _ _ h3, fun g hg => let ⟨oe, vs, k1, k2, k3⟩ := h4 g hg; ⟨oe, vs, k1, k2.zc, k3⟩⟩
theorem Rel3.more {K : PySem.W.Frag} {w : W3} {H : Hp} {S : S3} (r : Rel3 K w H S) {a : Addr} {u : HO} (hn : H a = none) : Rel3 K w (upd H a u) S := by
  have hw : w.h a = none := r.sub.free hn
  refine ⟨fun b x e => ?_, r.sz, r.len, fun n b x e q => ?_, r.dead, r.nd, fun b o hb => ?_, r.pnd⟩
  · rw [upd_ne (ne_of_none e hw)]
    exact r.sub b x e
  · obtain ⟨h1, y, h2, h3⟩ := r.live n b x e q
    exact ⟨h1, y, by rw [upd_ne (r.notal hn n b e)]; exact h2, h3⟩
  · obtain ⟨h1, h2, h3⟩ := r.pin b o hb
    have nb : b ≠ a := fun z => by rw [z, hn] at h1; cases h1
    exact ⟨by rw [upd_ne nb]; exact h1, h2, h3⟩
section
variable {X : Cx} {e : Expr} {te : TE3} {pi px pos : Pos} {x : Str} {l : List (Str × Bool)}
/-- T a class of the program -/
theorem qe_isX {D : Addr} (hg : Gl X "isinstance") (hm : X.mg "isinstance" = none) (hgx : Gl X x) (hmx : X.mg x = some (.ref D)) (T : XTab X.K [.ref D] l) (he : QE X e te) (hdx : (x == ("__debug__" : Str)) = false := by decide)
    (h1 : starEach [e, .Name x px] X.env = (false, eval e X.env) :: starEach [.Name x px] X.env := by rfl) (h2 : starEach [.Name x px] X.env = (false, eval (.Name x px) X.env) :: starEach [] X.env := by rfl) (hpl : (backTo pos (starEach [.Name x px] X.env)).any (·.1) = false := by rfl) :
    QE X (.Call (.Name "isinstance" pi) [e, .Name x px] [] pos) (tIsX l te) :=
  (pe_callB call_isX hg hm (by decide +kernel) (pa_cons he (pa_cons (pe_glob (v := .ref D) hgx hmx rfl hdx) pa_nil h2) h1) (by decide) (by decide) h1 hpl).imp fun σ H R ⟨w, env, S, Q, r0, en, t, q⟩ => by
    refine ⟨w, env, S, _, r0, en, t, fun w1 v d H1 S1 e1 r1 p1 t1 => ?_⟩
    split at t1
    · rename_i c o_
      split at t1
      · rename_i b hb
        obtain ⟨a, C, rfl, n1, A1⟩ := repX_low r1 p1
        obtain ⟨E, k⟩ := T.at_ c C b n1 hb
        exact ⟨a, C, .ref D, .ref D, b, rfl, A1, E, fun u z => by cases z; rfl, kitAny_one k, q _ _ _ _ _ e1 r1 rep_bl t1⟩
      · exact t1.elim
    · exact t1.elim
/-- T a built-in class -/
theorem qe_isXB {B : String} (hg : Gl X "isinstance") (hm : X.mg "isinstance" = none) (hgx : Gl X x) (hmx : X.mg x = none) (hvx : bootBuiltins x = some (.type B)) (T : XTab X.K [.type B] l) (he : QE X e te) (hnx : x ≠ "__name__" := by decide) (hdx : (x == ("__debug__" : Str)) = false := by decide)
    (h1 : starEach [e, .Name x px] X.env = (false, eval e X.env) :: starEach [.Name x px] X.env := by rfl) (h2 : starEach [.Name x px] X.env = (false, eval (.Name x px) X.env) :: starEach [] X.env := by rfl) (hpl : (backTo pos (starEach [.Name x px] X.env)).any (·.1) = false := by rfl) :
    QE X (.Call (.Name "isinstance" pi) [e, .Name x px] [] pos) (tIsX l te) :=
  (pe_callB call_isX hg hm (by decide +kernel) (pa_cons he (pa_cons (pe_bltn (v := .ty B) hgx hmx hvx rfl hnx hdx) pa_nil h2) h1) (by decide) (by decide) h1 hpl).imp fun σ H R ⟨w, env, S, Q, r0, en, t, q⟩ => by
    refine ⟨w, env, S, _, r0, en, t, fun w1 v d H1 S1 e1 r1 p1 t1 => ?_⟩
    split at t1
    · rename_i c o_
      split at t1
      · rename_i b hb
        obtain ⟨a, C, rfl, n1, A1⟩ := repX_low r1 p1
        obtain ⟨E, k⟩ := T.at_ c C b n1 hb
        exact ⟨a, C, .ty B, .type B, b, rfl, A1, E, fun u z => by cases z; rfl, kitAny_one k, q _ _ _ _ _ e1 r1 rep_bl t1⟩
      · exact t1.elim
    · exact t1.elim
/-- names of classes -/
inductive PCls (X : Cx) : List Expr → List Addr → Prop
  | nil : PCls X [] []
  | cons {x : Str} {px : Pos} {D : Addr} {es : List Expr} {Ds : List Addr} : Gl X x → X.mg x = some (.ref D) → (x == ("__debug__" : Str)) = false → starEach (.Name x px :: es) X.env = (false, eval (.Name x px) X.env) :: starEach es X.env → PCls X es Ds → PCls X (.Name x px :: es) (D :: Ds)
theorem pa_cls {es : List Expr} {Ds : List Addr} (h : PCls X es Ds) : PA X es (fun σ H R => R (Ds.map V.ref) H) := by
  induction h with
  | nil => exact pa_nil
  | cons h1 h2 h3 h4 _ ih => exact (pa_cons (pe_glob (v := .ref _) h1 h2 rfl h3) ih h4).imp fun σ H R q => q
theorem qe_isXT {es : List Expr} {Ds : List Addr} {kk : Nat} (hg : Gl X "isinstance") (hm : X.mg "isinstance" = none) (hes : PCls X es Ds) (T : XTab X.K (Ds.map Value.ref) l) (he : QE X e te) (hz : Ds.length ≤ 1000)
    (h1 : starEach [e, .Tuple es kk px] X.env = (false, eval e X.env) :: starEach [.Tuple es kk px] X.env := by rfl) (h2 : starEach [.Tuple es kk px] X.env = (false, eval (.Tuple es kk px) X.env) :: starEach [] X.env := by rfl) (hpl : (backTo pos (starEach [.Tuple es kk px] X.env)).any (·.1) = false := by rfl) :
    QE X (.Call (.Name "isinstance" pi) [e, .Tuple es kk px] [] pos) (tIsX l te) :=
  (pe_callB call_isXT hg hm (by decide +kernel) (pa_cons he (pa_cons (pe_tup (pa_cls hes)) pa_nil h2) h1) (by decide) (by decide) h1 hpl).imp fun σ H R ⟨w, env, S, Q, r0, en, t, q⟩ => by
    refine ⟨w, env, S, _, r0, en, t, fun w1 v d H1 S1 e1 r1 p1 t1 => ?_⟩
    refine ⟨by rw [List.length_map, sizeLine_eq]; omega, fun p hn => ?_⟩
    split at t1
    · rename_i c o_
      split at t1
      · rename_i b hb
        obtain ⟨a, C, rfl, n1, φ, A1, A2⟩ := repX_low r1 p1
        obtain ⟨E, k⟩ := T.at_ c C b n1 hb
        have nap : a ≠ p := fun z => by rw [z, hn] at A1; cases A1
        exact ⟨a, C, p, Ds, b, rfl, ⟨φ, by rw [upd_ne nap]; exact A1, A2⟩, E, upd_same, k, q _ _ _ _ _ e1 (r1.more hn) rep_bl t1⟩
      · exact t1.elim
    · exact t1.elim
end
end L3

set_option maxHeartbeats 2000000
/-! MY: texts. str(int), int(text), text.split(sep), sep.join(texts), a text walked, a sign in a text. -/
namespace L3
open PySem PySem.Spec PyProof.Rows L2
def rStrI3 : C3 := fun ds S Q => match ds with
  | [.p (.int i)] => i.natAbs.log2 < 1920 ∧ Q (.p (.str (toString i))) S
  | _ => False
def rIntS3 : C3 := fun ds S Q => match ds with
  | [.p (.str a)] => a.length ≤ 640 ∧ (match PySem.intText? a with
    | some n => Q (.p (.int n)) S
    | none => False)
  | ds => rIntOf3 ds S Q
def strs3 : List PyData → Option (List Str)
  | [] => some []
  | .str a :: ds => (strs3 ds).map (a :: ·)
  | _ :: _ => none
theorem strs3_map : ∀ ys : List Str, strs3 (ys.map PyData.str) = some ys
  | [] => rfl
  | y :: ys => by
    rw [List.map_cons]
    unfold strs3
    rw [strs3_map ys]
    rfl
theorem strs3_eq : ∀ {ds : List PyData} {ys : List Str}, strs3 ds = some ys → ds = ys.map PyData.str
  | [], ys, h => by cases h; rfl
  | d :: ds, ys, h => by
    cases d with
    | str a =>
      unfold strs3 at h
      cases e : strs3 ds with
      | none => rw [e] at h; cases h
      | some zs =>
        rw [e] at h
        cases h
        rw [strs3_eq e]
        rfl
    | _ => cases h
def tSplit3 (to te : TE3) : TE3 := fun env S Q => to env S fun x S1 => match x with
  | .p (.str a) => te env S1 fun y S2 => match y with
    | .p (.str b) => (b.length == 0) = false ∧ a.length + 2 ≤ 16777216 ∧ (Txt.split a b).length ≤ 16777216 ∧ Q (.p (.list ((Txt.split a b).map PyData.str))) S2
    | _ => False
  | _ => False
def tJoin3 (to te : TE3) : TE3 := fun env S Q => to env S fun x S1 => match x with
  | .p (.str a) => te env S1 fun y S2 => match lst3 S2 y with
    | some ds => (match strs3 ds with
      | some ys => (ys.map (·.length)).sum + ys.length * a.length ≤ 16777216 ∧ Q (.p (.str (Txt.join a ys))) S2
      | none => False)
    | none => False
  | _ => False
def tSIdx3 (to te : TE3) : TE3 := fun env S Q => to env S fun x S1 => match x with
  | .p (.str a) => te env S1 fun y S2 => match y with
    | .p (.str b) => (match Builtin.Str.occurrences a b 0 a.length 1 with
      | i :: _ => Q (.p (.int (i : Nat))) S2
      | [] => False)
    | _ => False
  | _ => False
/-- len of an own list of own lists -/
def rLenL3 : C3 := fun ds S Q => match ds with
  | [d] => (match lls3 S d with
    | some (_, es) => Q (.p (.int es.length)) S
    | none => False)
  | _ => False
def sgs (x : Str) : List PyData := x.cps.toList.map fun c => .str ⟨#[c]⟩
def tStrI3 (te : TE3) : TI3 := fun env S Q => te env S fun x S1 => match x with
  | .p (.str x) => x.length ≤ 16777216 ∧ Q (sgs x) (fun _ => True) S1
  | _ => False
def rInT3 : R3 := fun x y S Q => match x, y with
  | .p (.str a), .p (.str z) => (match a.cps.toList with
    | [c] => Q (.p (.bool (decide (c ∈ z.cps.toList)))) S
    | _ => False)
  | _, _ => False
section
variable {X : Cx}
theorem cq_strI : CQ X (.type "str") rStrI3 := callq call_str_int fun w S ds xs H Q R r0 p1 t q => by
  unfold rStrI3 at t
  split at t
  · obtain ⟨v, rfl, p⟩ := rds1 p1
    have := dp_int p
    subst this
    exact ⟨_, rfl, t.1, q.str r0 t.2⟩
  · exact t.elim
theorem cq_lenL : CQ X (.builtin "len") rLenL3 := callq call_len fun w S ds xs H Q R r0 p1 t q => by
  unfold rLenL3 at t
  split at t
  · split at t
    · rename_i n es h1
      obtain ⟨v, rfl, p⟩ := rds1 p1
      obtain ⟨a, ys, rfl, _, _, _, hu, hp, _⟩ := lls3_low r0 p h1
      exact ⟨_, es.length, rfl, .inl ⟨ys, .inl (.inl hu), (Paired.length hp).symm⟩, q.int r0 t⟩
    · exact t.elim
  · exact t.elim
theorem cq_intS : CQ X (.type "int") rIntS3 := CallR.imp (CallR.or (callq (r := fun ds S Q => ∃ a, ds = [.p (.str a)] ∧ a.length ≤ 640 ∧ ∃ n, PySem.intText? a = some n ∧ Q (.p (.int n)) S) call_int_str fun w S ds xs H Q R r0 p1 t q => by
    obtain ⟨a, rfl, hl, n, hn, t⟩ := t
    obtain ⟨v, rfl, p⟩ := rds1 p1
    have := dp_str p
    subst this
    exact ⟨a, n, rfl, hn, hl, q.int r0 t⟩) cq_int) fun xs H R ⟨w, S, ds, Q, r0, p1, t, q⟩ => by
  unfold rIntS3 at t
  split at t
  · refine .inl ⟨w, S, _, Q, r0, p1, ⟨_, rfl, t.1, ?_⟩, q⟩
    have t2 := t.2
    split at t2
    · rename_i n hn
      exact ⟨n, hn, t2⟩
    · exact t2.elim
  · exact .inr ⟨w, S, _, Q, r0, p1, t, q⟩
theorem oq_inT : OQ X (compareOp .In) rInT3 := opq op_in_sign fun w S d e x y H Q R r0 p1 p2 t q => by
  unfold rInT3 at t
  split at t
  · rename_i a z
    split at t
    · rename_i c hc
      have e1 := dp_str p1
      have e2 := dp_str p2
      subst e1 e2
      refine ⟨c, z, ?_, rfl, q.bl r0 t⟩
      congr 1
      exact Str.ext' (by rw [← Array.toList_inj, hc])
    · exact t.elim
  · exact t.elim
theorem dp_strs {K : PySem.W.Frag} {h : Hp} : ∀ {vs : List V} {ys : List Str}, DpAll K h vs (ys.map PyData.str) → vs = ys.map V.str
  | [], [], _ => rfl
  | v :: vs, y :: ys, a => by
    cases a with
    | cons a b =>
      cases a
      rw [dp_strs b]
      rfl
  | [], _ :: _, a => by cases a
  | _ :: _, [], a => by cases a
theorem dpStrs {K : PySem.W.Frag} {h : Hp} : ∀ (ys : List Str), DpAll K h (ys.map V.str) (ys.map PyData.str)
  | [] => .nil
  | y :: ys => .cons (.str y) (dpStrs ys)
variable {o e : Expr} {to te : TE3} {apos pos : Pos} {tg : Expr}
theorem qe_split (ho : QE X o to) (he : QE X e te) (hs : starEach [e] X.env = [(false, eval e X.env)] := by rfl) (hbase : attributeBase o "split" X.env (eval o X.env) = eval o X.env := by rfl) (hline : (apos.endLine == pos.line) = true := by rfl) :
    QE X (.Call (.Attribute o "split" apos) [e] [] pos) (tSplit3 to te) := L2.PE.imp (pe_split ho he hs hbase hline) fun σ H R ⟨w, env, S, Q, r0, en, t, q⟩ => by
  have hz : sizeLine = 16777216 := sizeLine_eq
  refine ⟨w, env, S, _, r0, en, t, fun w1 v d H1 S1 e1 r1 p1 t1 => ?_⟩
  split at t1
  · rename_i a
    have := dp_str p1
    subst this
    refine ⟨⟨a, rfl⟩, ?_⟩
    refine ⟨w1, env, S1, _, r1, en.mono e1, t1, fun w2 u c H2 S2 e2 r2 p2 t2 => ?_⟩
    split at t2
    · rename_i b
      have := dp_str p2
      subst this
      exact ⟨a, b, rfl, rfl, t2.1, by omega, fun p hp => ((q.mono e1).mono e2).lst r2 (dpStrs _) (by rw [List.length_map]; omega) t2.2.2.2 p hp⟩
    · exact t2.elim
  · exact t1.elim
theorem qe_join (ho : QE X o to) (he : QE X e te) (hs : starEach [e] X.env = [(false, eval e X.env)] := by rfl) (hbase : attributeBase o "join" X.env (eval o X.env) = eval o X.env := by rfl) (hline : (apos.endLine == pos.line) = true := by rfl) :
    QE X (.Call (.Attribute o "join" apos) [e] [] pos) (tJoin3 to te) := L2.PE.imp (pe_join ho he hs hbase hline) fun σ H R ⟨w, env, S, Q, r0, en, t, q⟩ => by
  refine ⟨w, env, S, _, r0, en, t, fun w1 v d H1 S1 e1 r1 p1 t1 => ?_⟩
  split at t1
  · rename_i a
    have := dp_str p1
    subst this
    refine ⟨⟨a, rfl⟩, ?_⟩
    refine ⟨w1, env, S1, _, r1, en.mono e1, t1, fun w2 u c H2 S2 e2 r2 p2 t2 => ?_⟩
    split at t2
    · rename_i ds h1
      split at t2
      · rename_i ys h2
        have := strs3_eq h2
        subst this
        obtain ⟨l, xs, rfl, hq, ha, hzz⟩ := lst3_low r2 p2 h1
        rw [dp_strs ha] at hq
        exact ⟨a, l, ys, rfl, rfl, .inl hq, t2.1, ((q.mono e1).mono e2).str r2 t2.2⟩
      · exact t2.elim
    · exact t2.elim
  · exact t1.elim
theorem qe_sidx (ho : QE X o to) (he : QE X e te) (hs : starEach [e] X.env = [(false, eval e X.env)] := by rfl) (hbase : attributeBase o "index" X.env (eval o X.env) = eval o X.env := by rfl) (hline : (apos.endLine == pos.line) = true := by rfl) :
    QE X (.Call (.Attribute o "index" apos) [e] [] pos) (tSIdx3 to te) := L2.PE.imp (pe_m1 PySem.F.slot_str_index PySem.F.type_str_index mt_sindex ho he hs hbase hline) fun σ H R ⟨w, env, S, Q, r0, en, t, q⟩ => by
  refine ⟨w, env, S, _, r0, en, t, fun w1 v d H1 S1 e1 r1 p1 t1 => ?_⟩
  split at t1
  · rename_i a
    have := dp_str p1
    subst this
    refine ⟨⟨a, rfl⟩, ?_⟩
    refine ⟨w1, env, S1, _, r1, en.mono e1, t1, fun w2 u c H2 S2 e2 r2 p2 t2 => ?_⟩
    split at t2
    · rename_i b
      have := dp_str p2
      subst this
      split at t2
      · rename_i i rest h1
        exact ⟨a, b, i, rest, rfl, rfl, h1, ((q.mono e1).mono e2).int r2 t2⟩
      · exact t2.elim
    · exact t2.elim
  · exact t1.elim
theorem qe_call0 {k : Nat} {x : Str} {p : Pos} {sp : Sp3} (F : Ok3 X.prog X.w X.K X.mg X.base k x sp) (hr : Room k X.A) (hg : Gl X x) (hdb : (x == ("__debug__" : Str)) = false := by decide) :
    QE X (.Call (.Name x p) [] [] pos) (tCB3 sp tNil3) := by
  obtain ⟨f, fd, ps, hm, kp, b, ok⟩ := F.ex
  refine (pe_call0 ok hr hg hm kp b .nil pass0 hdb).imp fun σ H R h => ?_
  have := lowCB h
  obtain ⟨w, env, S, Q, r0, en, t, q⟩ := this
  show lowC X.K sp ([] ++ []) H R
  exact q w [] [] H S (Ex3.refl w) r0 trivial t
theorem itr_str {K : PySem.W.Frag} {w : W3} (x : Str) : ItR K w (Its x) (sgs x) fun _ => True := fun w' H S e r _ => by
  have hl : (sgs x).length = x.cps.size := by unfold sgs; rw [List.length_map, Array.length_toList]
  refine ⟨fun i hi => by show x.cps.size ≤ i; omega, fun i y hy => ?_⟩
  have hil := (List.getElem?_eq_some_iff.mp hy).1
  refine ⟨by show i < x.cps.size; omega, fun u H' z => ?_⟩
  obtain ⟨rfl, c, hc, rfl⟩ := z
  unfold sgs at hy
  rw [List.getElem?_map, Array.getElem?_toList, hc] at hy
  cases hy
  exact ⟨w', Ex3.refl _, r, .str _⟩
theorem qi_str (he : QE X e te) : QI X tg e (tStrI3 te) := (pi_str he).imp fun σ H R ⟨w, env, S, Q, r0, en, t, q⟩ => by
  have hz : sizeLine = 16777216 := sizeLine_eq
  refine ⟨w, env, S, _, r0, en, t, fun w1 v d H1 S1 e1 r1 p1 t1 => ?_⟩
  split at t1
  · rename_i x
    have := dp_str p1
    subst this
    exact ⟨x, rfl, q w1 _ H1 S1 (sgs x) _ e1 r1 (itr_str x) (by unfold sgs; rw [List.length_map, Array.length_toList]; have := t1.1; show x.cps.size ≤ _; unfold Str.length at this; omega) t1.2⟩
  · exact t1.elim
end
end L3

set_option maxHeartbeats 2000000
/-! MZ: an own dict of tuple keys, locked while an expression walks its keys. -/
namespace L3
open PySem PySem.Spec PyProof.Rows L2
/-- the own dict in slot i is locked within te -/
def tLk3 (i : Nat) (te : TE3) : TE3 := fun env S Q => match at3 env i with
  | some (.loc n) => (match S[n]? with
    | some (some (.dic kvs)) => ∀ od kxs, te env (S.set n (some (.dif od kxs kvs))) fun d S' => S'[n]? = some (some (.dif od kxs kvs)) ∧ Q d (S'.set n (some (.dic kvs)))
    | _ => False)
  | _ => False
/-- the keys of a locked dict -/
def tKeysD3 (te : TE3) : TI3 := fun env S Q => te env S fun x S1 => match x with
  | .loc n => (match S1[n]? with
    | some (some (.dif od kxs kvs)) => kvs.length ≤ 16777216 ∧ (∀ p ∈ kvs, p.1.length ≤ 16777216) ∧ Q (kvs.map fun p => keyPd p.1) (fun S => S[n]? = some (some (.dif od kxs kvs))) S1
    | _ => False)
  | _ => False
/-- d.get(k, x) of an own dict of tuple keys, x data -/
def tTGetD3 (to ti tx : TE3) : TE3 := fun env S Q => to env S fun o S1 => match dic3 S1 o with
  | some _ => ti env S1 fun i S2 => tx env S2 fun z S3 => (match dic3 S3 o, z with
    | some (_, kvs), .p x => (match keyT i with
      | some k => Q (.p ((valE kvs k).getD x)) S3
      | none => False)
    | _, _ => False)
  | none => False
section
variable {X : Cx} {e : Expr} {te : TE3} {tg : Expr}
theorem qe_tgetD {o i x : Expr} {to ti tx : TE3} {apos pos : Pos} (hK : NoTK X.K) (hu : X.A.units + 64 < cLine) (ho : QE X o to) (hi : QE X i ti) (hx : QE X x tx) (m : M2 X o "get" apos i x pos := by exact ⟨by rfl, by rfl, by rfl, by rfl⟩) : QE X (.Call (.Attribute o "get" apos) [i, x] [] pos) (tTGetD3 to ti tx) := L2.PE.imp (pe_dget2 (by omega) ho hi hx m) fun σ H R ⟨w, env, S, Q, r0, en, t, q⟩ => by
  refine ⟨w, env, S, _, r0, en, t, fun w1 v d H1 S1 e1 r1 p1 t1 => ?_⟩
  split at t1
  · rename_i nk ho1
    obtain ⟨n0, kvs0⟩ := nk
    obtain ⟨a0, kxs0, rfl, _, _, _, hH0, _⟩ := dic3_low r1 p1 ho1
    refine ⟨a0, rfl, .inr ⟨kxs0, .inl hH0⟩, ?_⟩
    refine ⟨w1, env, S1, _, r1, en.mono e1, t1, fun w2 u c H2 S2 e2 r2 p2 t2 => ?_⟩
    refine ⟨w2, env, S2, _, r2, (en.mono e1).mono e2, t2, fun w3 z b H3 S3 e3 r3 p3 t3 => ?_⟩
    split at t3
    · rename_i n kvs y ho'
      split at t3
      · rename_i k hk
        obtain ⟨a, kxs, hva, rfl, ha, hs', hH, hp⟩ := dic3_low r3 ((p1.mono e2).mono e3) ho'
        cases hva
        obtain ⟨b', rfl, hb⟩ := keyT_low hK r3 (p2.mono e3) hk
        refine ⟨valV kxs k, DGet.t hH hb, ?_⟩
        rcases pt_val (k := k) hp with ⟨h1, h2⟩ | ⟨d', v', h1, h2, h3⟩
        · rw [h1] at t3
          rw [h2]
          exact (q.mono ((e1.trans e2).trans e3)).old r3 p3 t3
        · rw [h1] at t3
          rw [h2]
          exact (q.mono ((e1.trans e2).trans e3)).old (d := .p d') r3 h3 t3
      · exact t3.elim
    · exact t3.elim
  · exact t1.elim
theorem qe_lk (i : Nat) (h : QE X e te) : QE X e (tLk3 i te) := L2.PE.imp (pe_lock h) fun σ H R ⟨w, env, S, Q, r, en, t, q⟩ => by
  unfold tLk3 at t
  split at t
  · rename_i n hn
    split at t
    · rename_i kvs hs
      obtain ⟨v, hv, a, ha, rfl⟩ := en.2 i _ hn
      obtain ⟨_, u, hu, kxs, rfl, hp⟩ := r.live n a _ ha hs
      refine ⟨a, .dT kxs, hu, trivial, fun od => ?_⟩
      have r1 : Rel3 X.K w (upd H a (.frz od (.dT kxs))) (S.set n (some (.dif od kxs kvs))) := r.put ha hs ⟨rfl, hp⟩
      refine ⟨w, env, _, _, r1, en, t od kxs, fun w1 v d H1 S1 e1 r2 p1 t1 => ?_⟩
      obtain ⟨hs1, t1⟩ := t1
      obtain ⟨_, u1, hu1, rfl, hp1⟩ := r2.live n a _ (e1.get ha) hs1
      refine ⟨hu1, ?_⟩
      have r3 : Rel3 X.K w1 (upd H1 a (.dT kxs)) (S1.set n (some (.dic kvs))) := r2.put (e1.get ha) hs1 ⟨kxs, rfl, hp1⟩
      exact q w1 v d _ _ e1 r3 p1 t1
    · exact t.elim
  · exact t.elim
theorem pairT_get {α β : Type} {F : α → β → Prop} : ∀ {l : List α} {m : List β} {i : Nat} {a : α} {b : β}, Paired F l m → l[i]? = some a → m[i]? = some b → F a b
  | [], _, i, _, _, _, h, _ => by simp at h
  | x :: l, [], i, _, _, p, _, _ => by cases p
  | x :: l, y :: m, 0, a, b, .cons p _, h1, h2 => by
    cases h1
    cases h2
    exact p
  | x :: l, y :: m, i + 1, a, b, .cons _ ps, h1, h2 => pairT_get (i := i) ps h1 h2
theorem itr_keysT {K : PySem.W.Frag} {w : W3} {a : Addr} {n : Nat} {od : Obj} {kxs : List (List Key × V)} {kvs : List (List Key × PyData)} (ha : w.al[n]? = some a) (hz : ∀ p ∈ kvs, p.1.length ≤ sizeLine) :
    ItR K w (Itkt a od kxs) (kvs.map fun p => keyPd p.1) fun S => S[n]? = some (some (.dif od kxs kvs)) := fun w' H S e r hs => by
  obtain ⟨_, u, hu, rfl, hp⟩ := r.live n a _ (e.get ha) hs
  have hl : kxs.length = kvs.length := Paired.length hp
  refine ⟨fun i hi => ⟨hu, by rw [List.length_map] at hi; omega⟩, fun i x hx => ?_⟩
  rw [List.getElem?_map] at hx
  obtain ⟨p, hpi, rfl⟩ := Option.map_eq_some_iff.mp hx
  have hil := (List.getElem?_eq_some_iff.mp hpi).1
  refine ⟨⟨hu, by omega⟩, fun u H' y => ?_⟩
  obtain ⟨rfl, k, v, q, h1, rfl, h2⟩ := y
  have hk : k = p.1 := (pairT_get hp h1 hpi).1
  subst hk
  obtain ⟨r2, e2⟩ := r.tup h2 (by rw [List.length_map]; exact hz p (List.mem_of_getElem? hpi))
  exact ⟨_, e2, r2, dp_keyPd upd_same⟩
theorem qi_keysD (he : QE X e te) : QI X tg e (tKeysD3 te) := (pi_keys he).imp fun σ H R ⟨w, env, S, Q, r0, en, t, q⟩ => by
  have hz : sizeLine = 16777216 := sizeLine_eq
  refine ⟨w, env, S, _, r0, en, t, fun w1 v d H1 S1 e1 r1 p1 t1 => ?_⟩
  split at t1
  · rename_i n
    split at t1
    · rename_i od kxs kvs hs
      obtain ⟨a, ha, rfl⟩ := p1
      obtain ⟨_, u, hu, rfl, hp⟩ := r1.live n a _ ha hs
      exact ⟨a, od, rfl, .inr ⟨kxs, hu, q w1 _ H1 S1 _ _ e1 r1 (itr_keysT ha fun p hp => by have := t1.2.1 p hp; omega) (by rw [List.length_map]; omega) t1.2.2⟩⟩
    · exact t1.elim
  · exact t1.elim
end
end L3

namespace L3
open PySem PySem.Spec PyProof.Rows L2
/-! ### a, b, c = x, y, z with plain local names -/
def tPrT3 (i j l : Nat) (ta : TA3) : TS3 := fun D env S => ta env S fun ds S1 => match ds with
  | [x, y, z] => D.nx (set3 (set3 (set3 env i x) j y) l z) S1
  | _ => False
theorem qs_par3 {X : Cx} {i j l : Nat} {x y z : Str} {a b c : Expr} {ta : TA3} {px py pz pt pos : Pos} {kt k2 pt2} (hc : X.calm = true) (hN : X.N.Nodup) (hi : X.N[i]? = some x) (hj : X.N[j]? = some y) (hl : X.N[l]? = some z) (hij : i ≠ j) (hil : i ≠ l) (hjl : j ≠ l)
    (hx : X.env.scope.names.lookup x = some .local) (hy : X.env.scope.names.lookup y = some .local) (hz : X.env.scope.names.lookup z = some .local) (ha : QA X [a, b, c] ta)
    (hw : swappedStores [.Tuple [.Name x px, .Name y py, .Name z pz] kt pt] (.Tuple [a, b, c] k2 pt2) X.env = pure (some [x, y, z]))
    (hs : swapsWithSole [.Tuple [.Name x px, .Name y py, .Name z pz] kt pt] (.Tuple [a, b, c] k2 pt2) pos.line X.env = pure false := by rfl) :
    QS X (.Assign [.Tuple [.Name x px, .Name y py, .Name z pz] kt pt] (.Tuple [a, b, c] k2 pt2) pos) (tPrT3 i j l ta) := (ps_par3 hc hN hi hj hl hij hil hjl hx hy hz ha hw hs).imp fun D σ H ⟨w, env, S, D3, r, en, t, q⟩ => by
  refine ⟨w, env, S, _, r, en, t, fun w1 vs ds H1 S1 e1 r1 p1 t1 => ?_⟩
  match vs, ds, p1, t1 with
  | [v, u, t], [x, y, z], p1, t1 =>
    exact ⟨v, u, t, rfl, q.nx w1 _ H1 _ S1 e1 r1 ((((en.mono e1).set i p1.1).set j p1.2.1).set l p1.2.2.1) t1⟩
  | [], [x, y, z], p1, _ => exact p1.elim
  | [_], [x, y, z], p1, _ => exact p1.2.elim
  | [_, _], [x, y, z], p1, _ => exact p1.2.2.elim
  | _ :: _ :: _ :: _ :: _, [x, y, z], p1, _ => exact p1.2.2.2.elim
/-- .. where a comprehension reads one of them: by a tuple -/
theorem qs_parC3 {X : Cx} {i j l : Nat} {tg a b c : Expr} {ta : TA3} {pos pt2 : Pos} {k2} (ha : QA X [a, b, c] ta) (hg : QB X tg (.tup (.cons (.nm i) (.cons (.nm j) (.cons (.nm l) .nil))))) (hs : swapsWithSole [tg] (.Tuple [a, b, c] k2 pt2) pos.line X.env = pure false := by rfl)
    (hw : swappedStores [tg] (.Tuple [a, b, c] k2 pt2) X.env = pure none := by rfl) (h1 : (assignEach [tg] X.env).map (·.2) = [assign tg X.env] := by rfl) : QS X (.Assign [tg] (.Tuple [a, b, c] k2 pt2) pos) (tPrT3 i j l ta) :=
  (ps_asg (pe_tup ha) hg hs hw h1).imp fun D σ H ⟨w, env, S, D3, r, en, t, q⟩ => by
  refine ⟨w, env, S, _, r, en, t, fun w1 vs ds H1 S1 e1 r1 p1 t1 => ?_⟩
  have h3 : 3 ≤ sizeLine := by rw [sizeLine_eq]; decide
  match vs, ds, p1, t1 with
  | [v, u, t], [x, y, z], p1, t1 =>
    refine ⟨h3, fun p hn => ?_⟩
    obtain ⟨r2, e2⟩ := r1.frz (u := .tup [v, u, t]) hn h3
    unfold g2
    refine ⟨p, [v, u, t], rfl, .inl (.inl upd_same), rfl, ?_⟩
    unfold gs2
    refine ⟨v, [u, t], rfl, ?_⟩
    unfold gs2
    refine ⟨u, [t], rfl, ?_⟩
    unfold gs2
    refine ⟨t, [], rfl, ?_⟩
    unfold gs2
    refine ⟨rfl, ?_⟩
    exact q.nx _ _ _ _ S1 (e1.trans e2) r2 ((((en.mono (e1.trans e2)).set i (p1.1.mono e2)).set j (p1.2.1.mono e2)).set l (p1.2.2.1.mono e2)) t1
  | [], [x, y, z], p1, _ => exact p1.elim
  | [_], [x, y, z], p1, _ => exact p1.2.elim
  | [_, _], [x, y, z], p1, _ => exact p1.2.2.elim
  | _ :: _ :: _ :: _ :: _, [x, y, z], p1, _ => exact p1.2.2.2.elim
end L3

namespace L3
open PySem PySem.Spec PyProof.Rows L2
/-! ### zip of a list and a tuple -/
/-- the list at a and the tuple at b at each turn, the items in a new pair -/
def ItzM (K : PySem.W.Frag) (a b : Addr) : It :=
  ⟨fun i H => ∃ (xs ys : List V) (x y : V), SqL K H a xs ∧ SqT K H b ys ∧ xs[i]? = some x ∧ ys[i]? = some y,
    fun i H v H' => ∃ T x y, v = .ref T ∧ H T = none ∧ H' = upd H T (.tup [x, y]) ∧ (∀ xs, SqL K H a xs → xs[i]? = some x) ∧ ∀ ys, SqT K H b ys → ys[i]? = some y,
    fun i H => ∃ xs ys : List V, SqL K H a xs ∧ SqT K H b ys ∧ (xs.length ≤ i ∨ ys.length ≤ i)⟩
/-- an iterator's items from where it stands, or its end -/
theorem list_draws {prog : Program} {w : World} {A : Around} (hh : A.handled = none) {it l : Addr} (hne : l ≠ it) {items : Array Value} {h : Heap} {i : Nat} (hit : h.IsListIter it l i) (hl : h.IsList l items) :
    ∃ (n : Nat) (St : Nat → Heap → Prop), (i ≤ n ∧ (items.size ≤ i → i = n)) ∧ Draws prog w A it [it, l] n (fun j v => items[j]? = some v) St ∧ St i h := by
  by_cases hi : i ≤ items.size
  · exact ⟨_, _, ⟨hi, fun z => Nat.le_antisymm hi z⟩, Draws.list hh it l hne items, hit, hl⟩
  · refine ⟨i, fun j h => j = i ∧ h.IsListIter it l i ∧ h.IsList l items, ⟨Nat.le_refl _, fun _ => rfl⟩, ⟨fun _ _ st => let ⟨o, ho, _⟩ := st.2.1; ⟨o, ho⟩, fun _ _ _ st hk => ⟨st.1, st.2.1.at fun o e => hk it (by simp) o e, st.2.2.at fun o e => hk l (by simp) o e⟩, fun j s Q E hj st _ => absurd st.1 (Nat.ne_of_lt hj), fun s Q E st hE => wpAny_nextOf_list_end hh st.2.1 st.2.2 (by simp; omega) hE⟩, rfl, hit, hl⟩
theorem tuple_draws {prog : Program} {w : World} {A : Around} (hh : A.handled = none) {it l : Addr} (hne : l ≠ it) {items : Array Value} {h : Heap} {i : Nat} (hit : h.IsTupleIter it l i) (hl : h.IsTuple l items) :
    ∃ (n : Nat) (St : Nat → Heap → Prop), (i ≤ n ∧ (items.size ≤ i → i = n)) ∧ Draws prog w A it [it, l] n (fun j v => items[j]? = some v) St ∧ St i h := by
  by_cases hi : i ≤ items.size
  · exact ⟨_, _, ⟨hi, fun z => Nat.le_antisymm hi z⟩, Draws.tuple hh it l hne items, hit, hl⟩
  · refine ⟨i, fun j h => j = i ∧ h.IsTupleIter it l i ∧ h.IsTuple l items, ⟨Nat.le_refl _, fun _ => rfl⟩, ⟨fun _ _ st => let ⟨o, ho, _⟩ := st.2.1; ⟨o, ho⟩, fun _ _ _ st hk => ⟨st.1, st.2.1.at fun o e => hk it (by simp) o e, st.2.2.at fun o e => hk l (by simp) o e⟩, fun j s Q E hj st _ => absurd st.1 (Nat.ne_of_lt hj), fun s Q E st hE => RZ.nextOf_tuple_end hh st.2.1 st.2.2 (by simp; omega) hE⟩, rfl, hit, hl⟩
theorem turn_zipM {P : Program} {w : World} {K : PySem.W.Frag} {elts : List Expr} {kk : Nat} {tpos : Pos} {a b z TI TO i1 i2 : Addr} (S : ZipSep2 z TI TO i1 i2 [i1, a] [i2, b]) :
    Turn P w K (.Tuple elts kk tpos) (ItzM K a b) [z, TI, TO, i1, i2] z (fun i h => IsZip h z TI TO .none ∧ IsTupOf2 h TI (.ref i1) (.ref i2) ∧ (∃ x y, IsTupOf2 h TO x y) ∧ h.IsListIter i1 a i ∧ h.IsTupleIter i2 b i) := by
  have na : a ≠ i1 ∧ b ≠ i2 → True := fun _ => trivial
  constructor
  · simp
  · intro i h st c hc
    obtain ⟨hz, hTI, ⟨x, y, hTO⟩, ⟨o1, e1, _, d1⟩, ⟨o2, e2, _, d2⟩⟩ := st
    simp only [List.mem_cons, List.not_mem_nil, or_false] at hc
    rcases hc with q | q | q | q | q <;> subst q
    · exact ⟨_, hz, fun v q => nomatch q⟩
    · exact ⟨_, hTI, fun v q => nomatch q⟩
    · exact ⟨_, hTO, fun v q => nomatch q⟩
    · exact ⟨o1, e1, fun v q => by rw [d1] at q; cases q⟩
    · exact ⟨o2, e2, fun v q => by rw [d2] at q; cases q⟩
  · intro i h h' st k
    obtain ⟨hz, hTI, ⟨x, y, hTO⟩, h1, h2⟩ := st
    exact ⟨k z (by simp) _ hz, k TI (by simp) _ hTI, ⟨x, y, k TO (by simp) _ hTO⟩, h1.at fun o q => k i1 (by simp) o q, h2.at fun o q => k i2 (by simp) o q⟩
  · intro X hP hw hK hc i pins s σ H E I hf st hg
    subst hP hw hK
    obtain ⟨hz, hTI, ⟨x0, y0, hTO⟩, h1, h2⟩ := st
    obtain ⟨xs, ys, x, y, hqx, hqy, hx, hy⟩ := hg
    obtain ⟨its, rv, p, _⟩ := I.list hqx
    obtain ⟨its2, rv2, p2, _⟩ := I.tuple hqy
    obtain ⟨u, hu, ru⟩ := rv.get hx
    obtain ⟨u2, hu2, ru2⟩ := rv2.get hy
    have hzl : z < s.heap.objs.size := Heap.lt_size hz
    have ha1 : a ≠ i1 := fun q => by
      subst q
      obtain ⟨o, g, c, d⟩ := h1
      obtain ⟨o', g', c', _⟩ := p.isList
      rw [g] at g'
      cases g'
      rw [c] at c'
      exact absurd c' (by decide)
    have hb2 : b ≠ i2 := fun q => by
      subst q
      obtain ⟨o, g, c, d⟩ := h2
      obtain ⟨o', g', c', _⟩ := p2
      rw [g] at g'
      cases g'
      rw [c] at c'
      exact absurd c' (by decide)
    have hd : X.A.in1.handled = none := I.ok.hd hc
    have D1 := Draws.list (prog := X.prog) (w := X.w) hd i1 a ha1 its.toArray
    have D2 := Draws.tuple (prog := X.prog) (w := X.w) hd i2 b hb2 its2.toArray
    refine wpAny_pyNext_zipD2_item S D1 D2 hz hTI hTO ⟨h1, p.isList⟩ ⟨h2, p2⟩ (by have := (List.getElem?_eq_some_iff.mp hu).1; simpa using this) (by have := (List.getElem?_eq_some_iff.mp hu2).1; simpa using this) fun x1 x2 h' tk y1 y2 z' TO' g1 g2 hT hsz hk => ?_
    have ex1 : x1 = u := by simpa [hu] using y1.symm
    have ex2 : x2 = u2 := by simpa [hu2] using y2.symm
    subst ex1 ex2
    refine ⟨_, rfl, wpAny_letOwnedTupleGo_zip (s := { s with heap := h', toks := tk }) z' fun h'' z'' sb => ?_⟩
    have hT2 : h''.get? s.heap.objs.size = some { cls := .type "tuple", data := .seq #[x1, x2] } := (sb.2 _ (Nat.ne_of_gt hzl)).trans hT
    have new : ObjOk X.prog X.w (upd H s.heap.objs.size (.tup [x, y])) h'' s.heap.objs.size (.tup [x, y]) :=
      ⟨by show 2 ≤ sizeLine; decide, [x1, x2], .cons ru (.cons ru2 .nil), ⟨_, hT2, rfl, _, rfl⟩⟩
    have I1 : L2.Inv X pins σ (upd H s.heap.objs.size (.tup [x, y])) { s with heap := h'', toks := tk } :=
      I.turnedNew (t' := tk) (ch := [z, TI, TO, i1, i2]) (fun c o hb q => (sb.2 c (fun q' => hb (by simp [q']))).trans (hk c o (fun q' => hb (by simp [q'])) (fun q' => hb (by simp [q'])) (fun q' => hb (by simp [q'])) (fun q' => hb (by simp [q'])) q)) hf (Nat.le_refl _) new
    have lt : ∀ c ∈ [z, TI, TO, i1, i2], c < s.heap.objs.size := fun c hcm => by
      simp only [List.mem_cons, List.not_mem_nil, or_false] at hcm
      rcases hcm with q | q | q | q | q <;> subst q
      · exact hzl
      · exact Heap.lt_size hTI
      · exact Heap.lt_size hTO
      · obtain ⟨_, e1, _⟩ := h1; exact Heap.lt_size e1
      · obtain ⟨_, e2, _⟩ := h2; exact Heap.lt_size e2
    refine ⟨.ref s.heap.objs.size, _, I1, rfl, ⟨_, x, y, rfl, I.hok.fresh (Nat.le_refl _), rfl, fun l hl => by rw [I.list_inj hl hqx]; exact hx, fun l hl => by rw [I.tuple_inj hl hqy]; exact hy⟩, ⟨z'', ?_, ⟨x1, x2, ?_⟩, ?_, ?_⟩, fun c hcm => ?_⟩
    · exact (sb.2 _ S.TIz).trans (hk _ _ S.TIz S.TITO S.TIi1 S.TIi2 hTI)
    · exact (sb.2 _ S.TOz).trans TO'
    · exact g1.1.at fun o q => (sb.2 _ S.zi1.symm).trans q
    · exact g2.1.at fun o q => (sb.2 _ S.zi2.symm).trans q
    · rw [upd_ne (Nat.ne_of_lt (lt c hcm))]
      exact (hf c hcm).1
  · intro X hP hw hK hc i pins s σ H E I hf st hg
    subst hP hw hK
    obtain ⟨hz, hTI, ⟨x0, y0, hTO⟩, h1, h2⟩ := st
    obtain ⟨xs, ys, hqx, hqy, hend⟩ := hg
    obtain ⟨its, rv, p, _⟩ := I.list hqx
    obtain ⟨its2, rv2, p2, _⟩ := I.tuple hqy
    have l1 := rv.length
    have l2 := rv2.length
    have ha1 : a ≠ i1 := fun q => by
      subst q
      obtain ⟨o, g, c, d⟩ := h1
      obtain ⟨o', g', c', _⟩ := p.isList
      rw [g] at g'
      cases g'
      rw [c] at c'
      exact absurd c' (by decide)
    have hb2 : b ≠ i2 := fun q => by
      subst q
      obtain ⟨o, g, c, d⟩ := h2
      obtain ⟨o', g', c', _⟩ := p2
      rw [g] at g'
      cases g'
      rw [c] at c'
      exact absurd c' (by decide)
    have hd : X.A.in1.handled = none := I.ok.hd hc
    obtain ⟨n1, St1, q1, D1, u1⟩ := list_draws (prog := X.prog) (w := X.w) hd ha1 h1 p.isList
    obtain ⟨n2, St2, q2, D2, u2⟩ := tuple_draws (prog := X.prog) (w := X.w) hd hb2 h2 p2
    refine wpAny_pyNext_zipD2_end S D1 D2 hz hTI hTO u1 u2 q1.1 q2.1 (hend.elim (fun q => .inl (q1.2 (by simp; omega))) fun q => .inr (q2.2 (by simp; omega))) fun h' tk hk => ⟨rfl, I.turnedL (t' := tk) (ch := [z, TI, TO, i1, i2]) (fun c o hb q =>
      hk c o (fun q' => hb (by simp [q'])) (fun q' => hb (by simp [q'])) (fun q' => hb (by simp [q'])) (fun q' => hb (by simp [q'])) q) hf⟩
  · exact fun A i s Q E st h => wpAny_pyIter_zip st.1 h
def iZipM (K : PySem.W.Frag) (ta : TA) : TI := fun σ H R => ta σ H fun vs H1 => ∃ a b xs ys, vs = [.ref a, .ref b] ∧ SqL K H1 a xs ∧ SqT K H1 b ys ∧ R (ItzM K a b) H1
theorem pi_zipM {X : Cx} {e e2 : Expr} {ta : TA} {p pos tpos : Pos} {elts : List Expr} {kk : Nat} (hg : Gl X "zip") (hm : X.mg "zip" = none) (ha : PA X [e, e2] ta)
    (hs : starEach [e, e2] X.env = (false, eval e X.env) :: starEach [e2] X.env := by rfl) (hpl : (backTo pos (starEach [e2] X.env)).any (·.1) = false := by rfl) :
    PI X (.Tuple elts kk tpos) (.Call (.Name "zip" p) [e, e2] [] pos) (iZipM X.K ta) := by
  refine ⟨fun pins s σ H R I h => ?_⟩
  refine Call_ (ld_blt I hg hm PyProof.Rows.boot_zip (PyProof.Rows.callWith_type1 (thn (ha.run pos pins s σ H _ I h) fun us s1 ⟨vs, H1, I1, r1, q1⟩ => ?_) hs hpl))
  obtain ⟨a, b, xs, ys, ex, hqx, hqy, q⟩ := q1
  subst ex
  cases r1 with
  | cons r rr =>
  cases rr with
  | cons r' rr =>
  cases rr
  cases r
  cases r'
  obtain ⟨its, rv, p1, _⟩ := I1.list hqx
  obtain ⟨its2, rv2, p2, _⟩ := I1.tuple hqy
  have la : a < s1.heap.objs.size := p1.lt
  have lb : b < s1.heap.objs.size := by obtain ⟨o2, ho2, _⟩ := id p2; exact Heap.lt_size ho2
  refine zip_begins2 (begins_list a its.toArray) (begins_tuple b its2.toArray) p1.isList (show s1.heap.IsTuple b its2.toArray from p2) fun h' hz hTI hTO g1 g2 hsz hk => wpAny_pyIter_zip hz ?_
  have I2 : L2.Inv X pins σ H1 { s1 with heap := h' } := I1.kept (t' := s1.toks) hk
  have sep : ZipSep2 (s1.heap.objs.size + 4) (s1.heap.objs.size + 2) (s1.heap.objs.size + 3) s1.heap.objs.size (s1.heap.objs.size + 1) [s1.heap.objs.size, a] [s1.heap.objs.size + 1, b] :=
    zip_sep2 (fun c hc => by rw [List.mem_singleton.mp hc]; exact la) (fun c hc => by rw [List.mem_singleton.mp hc]; exact lb)
  refine ⟨s1.heap.objs.size + 4, [s1.heap.objs.size + 4, s1.heap.objs.size + 2, s1.heap.objs.size + 3, s1.heap.objs.size, s1.heap.objs.size + 1], _, _, H1, rfl, I2, turn_zipM sep, ⟨hz, hTI, ⟨_, _, hTO⟩, ⟨_, g1, rfl, rfl⟩, ⟨_, g2, rfl, rfl⟩⟩, fun c hcm => ?_, q⟩
  have hle : s1.heap.objs.size ≤ c := by
    simp only [List.mem_cons, List.not_mem_nil, or_false] at hcm
    rcases hcm with z | z | z | z | z
    · rw [z]; exact Nat.le_add_right _ _
    · rw [z]; exact Nat.le_add_right _ _
    · rw [z]; exact Nat.le_add_right _ _
    · rw [z]; exact Nat.le_refl _
    · rw [z]; exact Nat.le_add_right _ _
  exact I1.fpOk hle (I1.hok.fresh hle)
theorem itr_zipM {K : PySem.W.Frag} {w : W3} {a b : Addr} {d1 : D} {ds es : List PyData} (h : RepD K w (.ref a) d1) (h' : Dp K w.h (.ref b) (.tuple es)) : ItR K w (ItzM K a b) (zip3 ds es) fun S => lst3 S d1 = some ds := fun w' H S e r ok => by
  obtain ⟨a', xs, ea, hqa', ha, _⟩ := lst3_low r (h.mono0 e) ok
  obtain ⟨b', ys, eb, hqb, hb⟩ := dp_tup_ref (dp_mono e.h _ _ h')
  cases ea
  cases eb
  have hqb' := Same.sqT r.sub hqb
  have la := DpAll.length ha
  have lb := DpAll.length hb
  refine ⟨fun i hi => ⟨xs, ys, hqa', hqb', by rw [zip3_len] at hi; omega⟩, fun i x hx => ?_⟩
  obtain ⟨x1, x2, g1, g2, rfl⟩ := zip3_get hx
  obtain ⟨v1, k1, k2⟩ := DpAll.get ha g1
  obtain ⟨v2, k3, k4⟩ := DpAll.get hb g2
  refine ⟨⟨xs, ys, v1, v2, hqa', hqb', k1, k3⟩, fun v H' y => ?_⟩
  obtain ⟨T, y1, y2, rfl, hn, rfl, z1, z2⟩ := y
  have := (z1 _ hqa').symm.trans k1
  cases this
  have := (z2 _ hqb').symm.trans k3
  cases this
  exact pair_in r hn k2 k4
def tZipM3 (ta : TA3) : TI3 := fun env S Q => ta env S fun ds S1 => match ds with
  | [x, .p (.tuple ys)] => (match lst3 S1 x with
    | some xs => Q (zip3 xs ys) (fun S => lst3 S x = some xs) S1
    | _ => False)
  | _ => False
theorem qi_zipM {X : Cx} {e e2 : Expr} {ta : TA3} {p pos tpos : Pos} {elts : List Expr} {kk : Nat} (hg : Gl X "zip") (hm : X.mg "zip" = none) (ha : QA X [e, e2] ta)
    (hs : starEach [e, e2] X.env = (false, eval e X.env) :: starEach [e2] X.env := by rfl) (hpl : (backTo pos (starEach [e2] X.env)).any (·.1) = false := by rfl) :
    QI X (.Tuple elts kk tpos) (.Call (.Name "zip" p) [e, e2] [] pos) (tZipM3 ta) := (pi_zipM hg hm ha hs hpl).imp fun σ H R ⟨w, env, S, Q, r0, en, t, q⟩ => by
  refine ⟨w, env, S, _, r0, en, t, fun w1 vs ds H1 S1 e1 r1 p1 t1 => ?_⟩
  split at t1
  · obtain ⟨v, u, rfl, p2, p3⟩ := rds2 p1
    split at t1
    · rename_i xs' h1
      obtain ⟨a, xs, rfl, hqa, ha, hla⟩ := lst3_low r1 p2 h1
      obtain ⟨b, ys, rfl, hqb, hb⟩ := dp_tup_ref p3
      exact ⟨a, b, xs, ys, rfl, hqa, Same.sqT r1.sub hqb, q w1 _ H1 S1 _ _ e1 r1 (itr_zipM p2 p3) (by rw [zip3_len]; omega) t1⟩
    · exact t1.elim
  · exact t1.elim
end L3

/-! enumerate(text) -/
namespace L3
open PySem PySem.Spec PyProof.Rows L2
def IteS (x : Str) : It :=
  ⟨fun i _ => i < x.cps.size, fun i H v H' => ∃ T c, v = .ref T ∧ H T = none ∧ H' = upd H T (.tup [.int (i : Nat), .str ⟨#[c]⟩]) ∧ x.cps[i]? = some c, fun i _ => x.cps.size ≤ i⟩
theorem turn_enumS {P : Program} {w : World} {K : PySem.W.Frag} {elts : List Expr} {kk : Nat} {tpos : Pos} (x : Str) (t : Tok) (e it : Addr) :
    Turn P w K (.Tuple elts kk tpos) (IteS x) [e, it] e (fun i h => (∃ old, IsEnum h e it ((i : Nat) : Int) old) ∧ h.IsStrIter it (strIterType x) x t i ∧ e ≠ it) where
  mem := by simp
  obj := fun i h st b hb => by
    obtain ⟨⟨old, he⟩, ⟨o, ho, hc, hd⟩, _⟩ := st
    have e' : b = e ∨ b = it := by simpa using hb
    rcases e' with z | z
    · rw [z]; exact ⟨_, he, fun v q => nomatch q⟩
    · rw [z]; exact ⟨o, ho, fun v q => by rw [hd] at q; cases q⟩
  keep := fun i h h' st k => let ⟨⟨old, he⟩, ⟨o, ho, r⟩, hne⟩ := st; ⟨⟨old, k e (by simp) _ he⟩, ⟨o, k it (by simp) o ho, r⟩, hne⟩
  item := by
    intro X hP hw hK hc i pins s σ H E I hf st hg
    subst hP hw hK
    obtain ⟨⟨old, he⟩, hit, hne⟩ := st
    have hel : e < s.heap.objs.size := Heap.lt_size he
    have hil : it < s.heap.objs.size := by obtain ⟨_, q, _⟩ := hit; exact Heap.lt_size q
    refine wpAny_pyNext_enum_itemD (Draws.text (A := X.A.in1) (show X.A.in1.handled = none from I.ok.hd hc) it x t) he hit hg hne (show e ∉ [it] by simp [hne]) fun u' h' tk hu' ho hit' hT hsz hk => ?_
    obtain ⟨c, u, hcx, rfl⟩ := hu'
    refine ⟨_, rfl, wpAny_letOwnedTupleGo_enum (s := { s with heap := h', toks := tk + 1 }) ho fun h'' he' sb => ?_⟩
    have hT2 : h''.get? s.heap.objs.size = some { cls := .type "tuple", data := .seq #[.int i tk, .str ⟨#[c]⟩ u] } := (sb.2 _ (Nat.ne_of_gt hel)).trans hT
    have new : ObjOk X.prog X.w (upd H s.heap.objs.size (.tup [.int (i : Nat), .str ⟨#[c]⟩])) h'' s.heap.objs.size (.tup [.int (i : Nat), .str ⟨#[c]⟩]) :=
      ⟨by show 2 ≤ sizeLine; decide, [.int i tk, .str ⟨#[c]⟩ u], .cons ⟨_, rfl⟩ (.cons ⟨_, rfl⟩ .nil), ⟨_, hT2, rfl, _, rfl⟩⟩
    have I1 : Inv X pins σ (upd H s.heap.objs.size (.tup [.int (i : Nat), .str ⟨#[c]⟩])) { s with heap := h'', toks := tk + 1 } :=
      I.turnedNew (ch := [e, it]) (fun b ob hb q => (sb.2 b (fun z => hb (by simp [z]))).trans (hk b ob (fun z => hb (by simp [z])) (fun z => hb (by simp [z])) q)) hf (Nat.le_refl _) new
    refine ⟨.ref s.heap.objs.size, _, I1, rfl, ⟨_, c, rfl, I.hok.fresh (Nat.le_refl _), rfl, hcx⟩, ⟨⟨.str ⟨#[c]⟩ u, ?_⟩, ?_, hne⟩, fun b hb => ?_⟩
    · have e1 : ((i + 1 : Nat) : Int) = (i : Int) + 1 := by omega
      rw [e1]; exact he'
    · obtain ⟨o, q1, q2⟩ := hit'
      exact ⟨o, (sb.2 it (Ne.symm hne)).trans q1, q2⟩
    · have hb' : b < s.heap.objs.size := by
        have e' : b = e ∨ b = it := by simpa using hb
        rcases e' with z | z
        · rw [z]; exact hel
        · rw [z]; exact hil
      rw [upd_ne (Nat.ne_of_lt hb')]
      exact (hf b hb).1
  done := by
    intro X hP hw hK hc i pins s σ H E I hf st hg
    subst hP hw hK
    obtain ⟨⟨old, he⟩, hit, hne⟩ := st
    obtain ⟨f0, f1, f2, f3, f4, f5⟩ := hf it (by simp)
    have hge : x.cps.size ≤ i := hg
    have hx : x.cps[i]? = none := Array.getElem?_eq_none hge
    refine enum_end_of he (fun Q E hE => ?_) fun h' eb => ⟨rfl, I.turned (t' := s.toks) (fun b o hb q => eb b o hb q) f0 f1 f3 f4 f5⟩
    have hh : X.A.in1.handled = none := I.ok.hd hc
    unfold strIterType at hit
    cases ha : x.cps.all (· < 128)
    · rw [ha] at hit
      exact wpAny_nextOf_wide_end hh hit hx hE
    · rw [ha] at hit
      exact wpAny_nextOf_ascii_end hh hit hx hE
  self := fun A i s Q E st h => let ⟨⟨_, he⟩, _⟩ := st; wpAny_pyIter_enum he h
def iEnumS (ta : TA) : TI := fun σ H R => ta σ H fun vs H1 => ∃ x, vs = [.str x] ∧ R (IteS x) H1
def tEnumS3 (ta : TA3) : TI3 := fun env S Q => ta env S fun ds S1 => match ds with
  | [.p (.str x)] => x.length ≤ 16777216 ∧ Q (enum3 (sgs x)) (fun _ => True) S1
  | _ => False
section
variable {X : Cx} {e : Expr} {ta : TA} {te : TA3} {p pos tpos : Pos} {elts : List Expr} {kk : Nat}
theorem pi_enumS (hg : Gl X "enumerate") (hm : X.mg "enumerate" = none) (ha : PA X [e] ta) (hs : starEach [e] X.env = [(false, eval e X.env)] := by rfl) :
    PI X (.Tuple elts kk tpos) (.Call (.Name "enumerate" p) [e] [] pos) (iEnumS ta) := by
  refine ⟨fun pins s σ H R I h => ?_⟩
  refine Call_ (ld_blt I hg hm boot_enumerate (PyProof.Rows.callWith_type1 (thn (ha.run pos pins s σ H _ I h) fun us s1 ⟨vs, H1, I1, r1, q1⟩ => ?_) hs rfl))
  obtain ⟨x, ex, q⟩ := q1
  subst ex
  cases r1 with
  | cons r rr =>
    cases rr
    obtain ⟨t, rfl⟩ := r
    have B := begins_text x t
    refine call_enumG (hp' := fun h => h.push { cls := .type (strIterType x), data := .fields #[.str x t, .int 0 0] }) (it := fun h => h.objs.size) (H := fun _ => True) B.iter trivial (fun b o x => Heap.get?_push_of_some _ x) fun h' he hk hsz => wpAny_pyIter_enum he ?_
    have hz' : (s1.heap.push { cls := .type (strIterType x), data := .fields #[.str x t, .int 0 0] }).objs.size = s1.heap.objs.size + 1 := Heap.size_push ..
    have hk' : ∀ b o, s1.heap.get? b = some o → h'.get? b = some o := fun b o x => hk b o (Heap.get?_push_of_some _ x)
    have hit : h'.IsStrIter s1.heap.objs.size (strIterType x) x t 0 := ⟨_, hk _ _ (Heap.get?_push_size _ rfl), rfl, rfl⟩
    have I2 : Inv X pins σ H1 { s1 with heap := h' } := I1.kept (t' := s1.toks) hk'
    simp only [hz'] at he ⊢
    refine ⟨s1.heap.objs.size + 1, [s1.heap.objs.size + 1, s1.heap.objs.size], _, _, H1, rfl, I2, turn_enumS x t (s1.heap.objs.size + 1) s1.heap.objs.size, ⟨⟨.none, he⟩, hit, Nat.succ_ne_self _⟩, fun b hb => ?_, q⟩
    have e' : b = s1.heap.objs.size + 1 ∨ b = s1.heap.objs.size := by simpa using hb
    have hle : s1.heap.objs.size ≤ b := by
      rcases e' with z | z
      · rw [z]; exact Nat.le_add_right _ _
      · rw [z]; exact Nat.le_refl _
    exact I1.fpOk hle (I1.hok.fresh hle)
theorem itr_enumS {K : PySem.W.Frag} {w : W3} (x : Str) : ItR K w (IteS x) (enum3 (sgs x)) fun _ => True := fun w' H S e r _ => by
  refine ⟨fun i hi => ?_, fun i y hy => ?_⟩
  · rw [enum3_len] at hi
    unfold sgs at hi
    rw [List.length_map, Array.length_toList] at hi
    exact hi
  · obtain ⟨z, g1, rfl⟩ := enum3_get hy
    unfold sgs at g1
    rw [List.getElem?_map] at g1
    obtain ⟨c, hc, rfl⟩ := Option.map_eq_some_iff.mp g1
    rw [Array.getElem?_toList] at hc
    refine ⟨(Array.getElem?_eq_some_iff.mp hc).1, fun v H' y => ?_⟩
    obtain ⟨T, c', rfl, hn, rfl, z1⟩ := y
    have := z1.symm.trans hc
    cases this
    exact pair_in r hn (.int _) (.str _)
theorem qi_enumS (hc : X.calm = true) (hg : Gl X "enumerate") (hm : X.mg "enumerate" = none) (ha : QA X [e] te) (hs : starEach [e] X.env = [(false, eval e X.env)] := by rfl) :
    QI X (.Tuple elts kk tpos) (.Call (.Name "enumerate" p) [e] [] pos) (tEnumS3 te) := (pi_enumS hg hm ha hs).imp fun σ H R ⟨w, env, S, Q, r0, en, t, q⟩ => by
  have hz : sizeLine = 16777216 := sizeLine_eq
  refine ⟨w, env, S, _, r0, en, t, fun w1 vs ds H1 S1 e1 r1 p1 t1 => ?_⟩
  split at t1
  · rename_i x
    obtain ⟨v, rfl, p2⟩ := rds1 p1
    have := dp_str p2
    subst this
    refine ⟨x, rfl, q w1 _ H1 S1 _ _ e1 r1 (itr_enumS x) ?_ t1.2⟩
    rw [enum3_len]
    unfold sgs
    rw [List.length_map, Array.length_toList]
    have := t1.1
    show x.cps.size ≤ _
    unfold Str.length at this
    omega
  · exact t1.elim
end
end L3

/-! e.replace('y', 'z') as what a def hands back: the def's parameter has given out a token -/
namespace L3
open PySem PySem.Spec PyProof.Rows L2
def tRepl3 (y z : Str) (te : TE3) : TE3 := fun env S Q => te env S fun x S1 => match x with
  | .p (.str a) => a.length + (a.length + 1) * z.length ≤ 16777216 ∧ Q (.p (.str (Txt.replace a y z))) S1
  | _ => False
section
variable {X : Cx} {e o : Expr} {to : TE3} {t : TS} {y z : Str} {j k : Nat} {c0 c1 apos pos : Pos}
theorem qet_repl (ho : QE X o to) (hyz : (y == z) = false := by decide)
    (hst : starEach [.Constant (.str y) j c0, .Constant (.str z) k c1] X.env = [(false, eval (.Constant (.str y) j c0) X.env), (false, eval (.Constant (.str z) k c1) X.env)] := by rfl)
    (hbase : attributeBase o "replace" X.env (eval o X.env) = eval o X.env := by rfl) (hline : (apos.endLine == pos.line) = true := by rfl) :
    PET X (.Call (.Attribute o "replace" apos) [.Constant (.str y) j c0, .Constant (.str z) k c1] [] pos) (low X.K (tRepl3 y z to)) := by
  intro pins s σ H Q h0 I h
  refine CwR.pet_replC ho hyz hst hbase hline pins s σ H Q h0 I ?_
  obtain ⟨w, env, S, Q3, r, en, t, q⟩ := h
  refine ⟨w, env, S, _, r, en, t, fun w1 v d H1 S1 e1 r1 p1 t1 => ?_⟩
  match d, p1, t1 with
  | .p (.str a), p1, ⟨h1, h2⟩ =>
    cases p1
    exact ⟨a, rfl, h1, q _ _ _ _ _ e1 r1 rep_str h2⟩
theorem qst_ret {te : TE3} (he : PET X e (low X.K te)) : PSsT X [.Return (some e) pos] (lowS X.K (tRet3 te)) := by
  have h := CwR.psst_one (CwR.pst_ret (pos := pos) he)
  intro pins s σ H D h0 I hq
  refine h pins s σ H D h0 I ?_
  obtain ⟨w, env, S, D3, r, en, t, q⟩ := hq
  exact ⟨w, env, S, _, r, en, t, q.rt⟩
end
section
variable {P : Program} {w : World} {K : PySem.W.Frag} {mg : Str → Option Value} {base : Heap}
/-- a def that begins with a token out -/
theorem Ok3.mkT {x : Str} {st : Stmt} {f : Addr} {fd : FuncData} {N ps : List Str} {k : Nat} {sp : Sp3} {t3 : TS3} (F : Fun K x x st f fd) (hm : mg x = some (.ref f)) (b : Binds K fd ps []) (sc : FnScope N ps (defScope st))
    (hnc : ∀ y ∈ (defScope st).names, y.2 ≠ .cell) (hps : 1 ≤ ps.length) (hlen : ∀ ds S Q, sp ds S Q → ds.length = ps.length)
    (body : ∀ (cdv : Value) (A : Around) (outer : List Env) (s : Shared) (H : Hp) (E : XK), Room k (A.deeper (envOfC x (defScope st) s.heap.objs.size f cdv)) → PSsT (cxOf CX0 P w K mg base N x (defScope st) f cdv A outer s H E) (defBody st) (lowS K t3))
    (read : ∀ ds S Q, sp ds S Q → t3 { nx := fun _ S' => Fin3 S Q (.p .none) S', rt := Fin3 S Q } (env0 N.length ds) S) : Ok3 P w K mg base (k + 1) x sp := by
  obtain ⟨oc, od, kV, doc, pm, an, cdv, ct, osl, rfl, lk, hcd⟩ := F.ex
  refine ⟨f, _, ps, hm, F.kp, b, fn_ofT lk hcd sc hnc hps (fun vs H Q E h => ?_) (fun A outer s H vs Q E hr h => ?_)⟩
  · obtain ⟨w3, S, ds, Q3, r, rd, hs, q⟩ := h
    rw [RepDs.length rd]
    exact hlen ds S Q3 hs
  · obtain ⟨w3, S, ds, Q3, r, rd, hs, q⟩ := h
    refine ⟨_, body cdv A outer s H E hr, ?_⟩
    have fin : ∀ (w4 : W3) (v : V) (d : D) (H' : Hp) (S' : S3), Ex3 w3 w4 → Rel3 K w4 H' S' → RepD K w4 v d → Fin3 S Q3 d S' → Q v H' := fun w4 v d H' S' e4 r4 p4 ⟨L, hL, hb, h4⟩ => by
      refine q ⟨w4.al.take L, w4.h, w4.pn⟩ v d H' (S'.take L) ⟨⟨?_, e4.h⟩, e4.pn⟩ (r4.shrink L) ?_ h4
      · obtain ⟨t, ht⟩ := e4.al
        refine ⟨t.take (L - w3.al.length), ?_⟩
        show w4.al.take L = _
        rw [ht, List.take_append, List.take_of_length_le (by rw [r.len]; exact hL)]
      · cases d with
        | p d => exact p4
        | exc c => exact p4
        | loc m =>
          obtain ⟨a, h5, h6⟩ := p4
          exact ⟨a, by show (w4.al.take L)[m]? = _; rw [List.getElem?_take_of_lt hb]; exact h5, h6⟩
    exact ⟨w3, _, S, _, r, env_start rd, read ds S Q3 hs, ⟨fun w4 σ' H' env' S' e4 r4 _ h4 => fin w4 .non (.p .none) H' S' e4 r4 rep_non h4, fun w4 v d H' S' e4 r4 p4 h4 => fin w4 v d H' S' e4 r4 p4 h4,
      fun _ _ _ _ _ _ _ _ h => h.elim, fun _ _ _ _ _ _ _ _ h => h.elim⟩⟩
end
end L3

namespace G_k75
open PySem PySem.Spec PyProof.Rows L2 L3
def topS (i : Nat) : Stmt := PySem.Challenge.pw_windowfloor_k75_whole_written_and_read.main.body.getD i (.Pass ⟨0, 0, 0, 0⟩)
abbrev s_show_torn : Stmt := topS 5
abbrev nm_show_torn : List Str := ["torn", "rows", "row", "sign"]
theorem sc_show_torn : FnScope nm_show_torn ["torn"] (defScope s_show_torn) := ⟨rfl, rfl, rfl, by decide +kernel, rfl, by decide +kernel, by decide +kernel⟩
abbrev s_show_floor : Stmt := topS 6
abbrev nm_show_floor : List Str := ["floor"]
theorem sc_show_floor : FnScope nm_show_floor ["floor"] (defScope s_show_floor) := ⟨rfl, rfl, rfl, by decide +kernel, rfl, by decide +kernel, by decide +kernel⟩
abbrev s_show_seen : Stmt := topS 7
abbrev nm_show_seen : List Str := ["shape", "seen", "i", "high", "wide", "signs", "cell", "sign", "rows", "j"]
theorem sc_show_seen : FnScope nm_show_seen ["shape", "seen"] (defScope s_show_seen) := ⟨rfl, rfl, rfl, by decide +kernel, rfl, by decide +kernel, by decide +kernel⟩
abbrev s_show_shape : Stmt := topS 8
abbrev nm_show_shape : List Str := ["shape", "cell"]
theorem sc_show_shape : FnScope nm_show_shape ["shape"] (defScope s_show_shape) := ⟨rfl, rfl, rfl, by decide +kernel, rfl, by decide +kernel, by decide +kernel⟩
abbrev s_picture_rows : Stmt := topS 13
abbrev nm_picture_rows : List Str := ["text", "signs", "rows", "row", "sign"]
theorem sc_picture_rows : FnScope nm_picture_rows ["text", "signs"] (defScope s_picture_rows) := ⟨rfl, rfl, rfl, by decide +kernel, rfl, by decide +kernel, by decide +kernel⟩
abbrev s_read_torn : Stmt := topS 14
abbrev nm_read_torn : List Str := ["text", "rows", "row", "sign"]
theorem sc_read_torn : FnScope nm_read_torn ["text"] (defScope s_read_torn) := ⟨rfl, rfl, rfl, by decide +kernel, rfl, by decide +kernel, by decide +kernel⟩
abbrev s_read_floor : Stmt := topS 15
abbrev nm_read_floor : List Str := ["text"]
theorem sc_read_floor : FnScope nm_read_floor ["text"] (defScope s_read_floor) := ⟨rfl, rfl, rfl, by decide +kernel, rfl, by decide +kernel, by decide +kernel⟩
abbrev s_checked_cells : Stmt := topS 16
abbrev nm_checked_cells : List Str := ["cells", "rows", "heights", "columns", "i", "j"]
theorem sc_checked_cells : FnScope nm_checked_cells ["cells", "rows"] (defScope s_checked_cells) := ⟨rfl, rfl, rfl, by decide +kernel, rfl, by decide +kernel, by decide +kernel⟩
abbrev s_read_seen : Stmt := topS 17
abbrev nm_read_seen : List Str := ["text", "rows", "cells", "seen", "i", "row", "j", "sign"]
theorem sc_read_seen : FnScope nm_read_seen ["text"] (defScope s_read_seen) := ⟨rfl, rfl, rfl, by decide +kernel, rfl, by decide +kernel, by decide +kernel⟩
abbrev s_read_shape : Stmt := topS 18
abbrev nm_read_shape : List Str := ["text", "rows", "cells", "i", "row", "j"]
theorem sc_read_shape : FnScope nm_read_shape ["text"] (defScope s_read_shape) := ⟨rfl, rfl, rfl, by decide +kernel, rfl, by decide +kernel, by decide +kernel⟩
abbrev s_size : Stmt := topS 20
abbrev nm_size : List Str := ["floor"]
theorem sc_size : FnScope nm_size ["floor"] (defScope s_size) := ⟨rfl, rfl, rfl, by decide +kernel, rfl, by decide +kernel, by decide +kernel⟩
abbrev s_all_places : Stmt := topS 21
abbrev nm_all_places : List Str := ["floor", "high", "wide", "found", "r", "c"]
theorem sc_all_places : FnScope nm_all_places ["floor"] (defScope s_all_places) := ⟨rfl, rfl, rfl, by decide +kernel, rfl, by decide +kernel, by decide +kernel⟩
abbrev s_sign_at : Stmt := topS 22
abbrev nm_sign_at : List Str := ["floor", "r", "c", "line"]
theorem sc_sign_at : FnScope nm_sign_at ["floor", "r", "c"] (defScope s_sign_at) := ⟨rfl, rfl, rfl, by decide +kernel, rfl, by decide +kernel, by decide +kernel⟩
abbrev s_window : Stmt := topS 24
abbrev nm_window : List Str := ["floor", "shape", "place", "r", "c", "i", "j"]
theorem sc_window : FnScope nm_window ["floor", "shape", "place"] (defScope s_window) := ⟨rfl, rfl, rfl, by decide +kernel, rfl, by decide +kernel, by decide +kernel⟩
abbrev s_fits : Stmt := topS 25
abbrev nm_fits : List Str := ["floor", "shape", "seen", "place", "r", "c", "cell", "sign"]
theorem sc_fits : FnScope nm_fits ["floor", "shape", "seen", "place"] (defScope s_fits) := ⟨rfl, rfl, rfl, by decide +kernel, rfl, by decide +kernel, by decide +kernel⟩
abbrev s_places_of : Stmt := topS 26
abbrev nm_places_of : List Str := ["floor", "shape", "seen", "place"]
theorem sc_places_of : FnScope nm_places_of ["floor", "shape", "seen"] (defScope s_places_of) := ⟨rfl, rfl, rfl, by decide +kernel, rfl, by decide +kernel, by decide +kernel⟩
abbrev s__law_pot : Stmt := topS 28
abbrev nm__law_pot : List Str := ["_law_script", "_law_k", "_law_cell", "_law_great"]
theorem sc__law_pot : FnScope nm__law_pot ["_law_script", "_law_k"] (defScope s__law_pot) := ⟨rfl, rfl, rfl, by decide +kernel, rfl, by decide +kernel, by decide +kernel⟩
abbrev s__law_take : Stmt := topS 29
abbrev nm__law_take : List Str := ["_law_pot_here", "_law_many", "_law_digit"]
theorem sc__law_take : FnScope nm__law_take ["_law_pot_here", "_law_many"] (defScope s__law_take) := ⟨rfl, rfl, rfl, by decide +kernel, rfl, by decide +kernel, by decide +kernel⟩
abbrev s__law_floor : Stmt := topS 30
abbrev nm__law_floor : List Str := ["_law_pot_here", "_law_high", "_law_wide", "_law_few", "_law_r", "_law_c"]
theorem sc__law_floor : FnScope nm__law_floor ["_law_pot_here"] (defScope s__law_floor) := ⟨rfl, rfl, rfl, by decide +kernel, rfl, by decide +kernel, by decide +kernel⟩
abbrev s__law_shape : Stmt := topS 31
abbrev nm__law_shape : List Str := ["_law_pot_here", "_law_cells", "_law_k", "_law_top", "_law_left", "_law_i", "_law_j"]
theorem sc__law_shape : FnScope nm__law_shape ["_law_pot_here"] (defScope s__law_shape) := ⟨rfl, rfl, rfl, by decide +kernel, rfl, by decide +kernel, by decide +kernel⟩
abbrev s__law_window : Stmt := topS 32
abbrev nm__law_window : List Str := ["_law_floor_here", "_law_shape_here", "_law_r", "_law_c", "_law_rows", "_law_i", "_law_j", "_law_row", "_law_cell"]
theorem sc__law_window : FnScope nm__law_window ["_law_floor_here", "_law_shape_here", "_law_r", "_law_c"] (defScope s__law_window) := ⟨rfl, rfl, rfl, by decide +kernel, rfl, by decide +kernel, by decide +kernel⟩
abbrev s__law_fits : Stmt := topS 33
abbrev nm__law_fits : List Str := ["_law_floor_here", "_law_shape_here", "_law_seen", "_law_found", "_law_r", "_law_c", "_law_here", "_law_told", "_law_sign"]
theorem sc__law_fits : FnScope nm__law_fits ["_law_floor_here", "_law_shape_here", "_law_seen"] (defScope s__law_fits) := ⟨rfl, rfl, rfl, by decide +kernel, rfl, by decide +kernel, by decide +kernel⟩
abbrev s_law : Stmt := topS 34
abbrev nm_law : List Str := ["_law_script", "_law_k", "_law_pot_here", "_law_floor_here", "_law_shape_here", "_law_same", "_law_r", "_law_c", "_law_torn", "_law_seen", "_law_told", "_law_again", "_law_found", "_law_cells", "_law_signs", "_law_wide", "_law_rows", "_law_at", "_law_sign"]
theorem sc_law : FnScope nm_law ["_law_script"] (defScope s_law) := ⟨rfl, rfl, rfl, by decide +kernel, rfl, by decide +kernel, by decide +kernel⟩
/-- what stands behind the top -/
structure Txt (K : PySem.W.Frag) (mg : Str → Option Value) (base : Heap) : Prop where
  nd : base.NoDigits
  nt : NoTK K
  b_abs : mg "abs" = none
  b_all : mg "all" = none
  b_enumerate : mg "enumerate" = none
  b_int : mg "int" = none
  b_len : mg "len" = none
  b_max : mg "max" = none
  b_min : mg "min" = none
  b_range : mg "range" = none
  b_sorted : mg "sorted" = none
  b_tuple : mg "tuple" = none
  b_zip : mg "zip" = none
  c_FARTHEST : ∃ (u : Value) (v : V), mg "FARTHEST" = some u ∧ RelV v u ∧ ∀ H, L3.Dp K H v (.int 39)
  c_MOST_CELLS : ∃ (u : Value) (v : V), mg "MOST_CELLS" = some u ∧ RelV v u ∧ ∀ H, L3.Dp K H v (.int 16)
  c_MOST_PLACES : ∃ (u : Value) (v : V), mg "MOST_PLACES" = some u ∧ RelV v u ∧ ∀ H, L3.Dp K H v (.int 600)
  c_SIGNS : ∃ (u : Value) (v : V), mg "SIGNS" = some u ∧ RelV v u ∧ ∀ H, L3.Dp K H v (.str (PySem.Str.ofString "0123456789abcdefghijklmnopqrstuvwxyz"))
  f_show_torn : ∃ f fd, Fun K "show_torn" "show_torn" s_show_torn f fd ∧ mg "show_torn" = some (.ref f) ∧ Binds K fd ["torn"] []
  f_show_floor : ∃ f fd, Fun K "show_floor" "show_floor" s_show_floor f fd ∧ mg "show_floor" = some (.ref f) ∧ Binds K fd ["floor"] []
  f_show_seen : ∃ f fd, Fun K "show_seen" "show_seen" s_show_seen f fd ∧ mg "show_seen" = some (.ref f) ∧ Binds K fd ["shape", "seen"] []
  f_show_shape : ∃ f fd, Fun K "show_shape" "show_shape" s_show_shape f fd ∧ mg "show_shape" = some (.ref f) ∧ Binds K fd ["shape"] []
  f_picture_rows : ∃ f fd, Fun K "picture_rows" "picture_rows" s_picture_rows f fd ∧ mg "picture_rows" = some (.ref f) ∧ Binds K fd ["text", "signs"] []
  f_read_torn : ∃ f fd, Fun K "read_torn" "read_torn" s_read_torn f fd ∧ mg "read_torn" = some (.ref f) ∧ Binds K fd ["text"] []
  f_read_floor : ∃ f fd, Fun K "read_floor" "read_floor" s_read_floor f fd ∧ mg "read_floor" = some (.ref f) ∧ Binds K fd ["text"] []
  f_checked_cells : ∃ f fd, Fun K "checked_cells" "checked_cells" s_checked_cells f fd ∧ mg "checked_cells" = some (.ref f) ∧ Binds K fd ["cells", "rows"] []
  f_read_seen : ∃ f fd, Fun K "read_seen" "read_seen" s_read_seen f fd ∧ mg "read_seen" = some (.ref f) ∧ Binds K fd ["text"] []
  f_read_shape : ∃ f fd, Fun K "read_shape" "read_shape" s_read_shape f fd ∧ mg "read_shape" = some (.ref f) ∧ Binds K fd ["text"] []
  f_size : ∃ f fd, Fun K "size" "size" s_size f fd ∧ mg "size" = some (.ref f) ∧ Binds K fd ["floor"] []
  f_all_places : ∃ f fd, Fun K "all_places" "all_places" s_all_places f fd ∧ mg "all_places" = some (.ref f) ∧ Binds K fd ["floor"] []
  f_sign_at : ∃ f fd, Fun K "sign_at" "sign_at" s_sign_at f fd ∧ mg "sign_at" = some (.ref f) ∧ Binds K fd ["floor", "r", "c"] []
  f_window : ∃ f fd, Fun K "window" "window" s_window f fd ∧ mg "window" = some (.ref f) ∧ Binds K fd ["floor", "shape", "place"] []
  f_fits : ∃ f fd, Fun K "fits" "fits" s_fits f fd ∧ mg "fits" = some (.ref f) ∧ Binds K fd ["floor", "shape", "seen", "place"] []
  f_places_of : ∃ f fd, Fun K "places_of" "places_of" s_places_of f fd ∧ mg "places_of" = some (.ref f) ∧ Binds K fd ["floor", "shape", "seen"] []
  f__law_pot : ∃ f fd, Fun K "_law_pot" "_law_pot" s__law_pot f fd ∧ mg "_law_pot" = some (.ref f) ∧ Binds K fd ["_law_script", "_law_k"] []
  f__law_take : ∃ f fd, Fun K "_law_take" "_law_take" s__law_take f fd ∧ mg "_law_take" = some (.ref f) ∧ Binds K fd ["_law_pot_here", "_law_many"] []
  f__law_floor : ∃ f fd, Fun K "_law_floor" "_law_floor" s__law_floor f fd ∧ mg "_law_floor" = some (.ref f) ∧ Binds K fd ["_law_pot_here"] []
  f__law_shape : ∃ f fd, Fun K "_law_shape" "_law_shape" s__law_shape f fd ∧ mg "_law_shape" = some (.ref f) ∧ Binds K fd ["_law_pot_here"] []
  f__law_window : ∃ f fd, Fun K "_law_window" "_law_window" s__law_window f fd ∧ mg "_law_window" = some (.ref f) ∧ Binds K fd ["_law_floor_here", "_law_shape_here", "_law_r", "_law_c"] []
  f__law_fits : ∃ f fd, Fun K "_law_fits" "_law_fits" s__law_fits f fd ∧ mg "_law_fits" = some (.ref f) ∧ Binds K fd ["_law_floor_here", "_law_shape_here", "_law_seen"] []
  f_law : ∃ f fd, Fun K "law" "law" s_law f fd ∧ mg "law" = some (.ref f) ∧ Binds K fd ["_law_script"] []
local macro_rules | `(tactic| walk_at "sd") => `(tactic| first | assumption | decide +kernel | omega | exact mulOk_ite _ _ | (refine Or.inl ⟨?_, ?_⟩ <;> omega) | (refine Or.inr (Or.inl ⟨?_, ?_⟩) <;> omega) | (refine And.intro ?_ (Or.inl ?_) <;> omega))
local macro_rules | `(tactic| walk_at "cj") => `(tactic| repeat (refine And.intro ?_ ?_; walk_at "sd"))
local macro_rules | `(tactic| walk_at "rd") => `(tactic| try simp only [tSeq3, tNext3, tDrop3, tRet3, tRetN3, tIfS3, tSet3, tAsgT3, tPr3, tWhile3, tFor3, tLc3, tRng1, tRng2, tSeqI3, tYes3, wipe3, wipe3.clr, tPut3, tApp3, tPop3, tVar3, tC3, tOp3, tUn3, tNil3, tCons3, tCB3, tTest3, tChain3, tAnd3, tOr3, tNot3, tAndV3, tOrV3, tNotV3, tIf3, tTup3, tPure, tOwn, tLst3, pures, at3, set3, bind3_nm, bind3_tup, binds3_nil, binds3_cons, rAdd3, rSub3, rMulT3, rMul3, rMod3, rDiv3, rPow3, rLt3, rLe3, rGt3, rGe3, rEqS3, rNeS3, rIs3, rIsNot3, rInt, rInt0, L3.isNon, rNeg3, rIntOf3, rInt2, rReprD3, rLen3, rIx3, seq3, lst3, own3, atI_lit, ixN_lit, atI_neg1, List.getElem?_cons_zero, List.getElem?_cons_succ, List.set_cons_zero, List.set_cons_succ, List.getLast?, List.dropLast, List.set_set, tIsi3, tSl3, tSlN3, tPart3, tNoPart3, tZipI3, tZipM3, tEnumerateI3, tEnumA3, tEnumS3, tRepl3, tEnumR3, tReversedI3, tTupRev3, tLstOf3, rBls3, rInts3, rSumA3, rAbs3, rTupOf3, rMulS3, rIntT3, tExt3, rIn3, rInA3, tSortedI3, tSortedD3, rLtD3, tRev3, tDNew3, tDGet3, tDPut3, tDIn3, rMaxT3, tSetLL3, rIxL3, lls3, tIns3, tIdxL3, tTNew3, tTGet3, tTPut3, tTIn3, dic3, rLenA3, dik3, key3, tRgA3, tRgB3, tLstRgA, tLstRgB, tTupRgA, tTupRgB, tAug3, tAugI3, tDLit3, tPairs3, keysD, keyD, tRg3, tSplit3, tJoin3, tStrI3, rInT3, tSIdx3, tLk3, tKeysD3, tTGetD3, strs3_map, rEqL3, rNeL3, L3.data3, tSortSet3, tRepN3, tPopAt3, L3.under, isTy, decide_eq_true_eq, Bool.not_eq_true', env0, List.map, List.length_cons, List.length_nil, List.replicate, List.cons_append, List.nil_append, Nat.sub_self, Nat.reduceAdd, Nat.reduceSub, eqv_int, shaped_int, shaped_none, eqv_ni, eqv_in, eqv_str_self, shaped_ofStr, and_self, true_and, beq_iff_eq, bne_iff_ne, if_true, if_false, Bool.false_eq_true, List.length_set, Nat.reduceLT, Int.reduceLT, Int.reduceLE, Int.reduceToNat, Int.reducePow, Int.reduceMul, Int.reduceMod, Int.reduceAdd, Int.reduceSub, Int.reduceNeg, sizeLine_eq, Nat.reduceLeDiff, String.reduceBEq, String.reduceEq, beq_self_eq_true, beq_eq_false_iff_ne, ne_eq, decide_eq_false_iff_not, not_true_eq_false, not_false_eq_true, Bool.true_eq_false, Bool.or_true, Bool.or_false, reduceIte, ite_true, ite_false, decide_true, decide_false, Bool.not_true, Bool.not_false, Bool.and_true, Bool.true_and, List.length_map])
local macro_rules | `(tactic| walk_at "bd") => `(tactic| first | kernel_rfl | rfl | with_unfolding_all rfl)
local macro_rules | `(tactic| walk_at "rdx") => `(tactic| simp only [tSeq3, tNext3, tDrop3, tRet3, tRetN3, tIfS3, tSet3, tAsgT3, tPr3, tWhile3, tFor3, tLc3, tRng1, tRng2, tSeqI3, tYes3, wipe3, wipe3.clr, tPut3, tApp3, tPop3, tVar3, tC3, tOp3, tUn3, tNil3, tCons3, tCB3, tTest3, tChain3, tAnd3, tOr3, tNot3, tAndV3, tOrV3, tNotV3, tIf3, tTup3, tPure, tOwn, tLst3, pures, at3, set3, bind3_nm, bind3_tup, binds3_nil, binds3_cons, rAdd3, rSub3, rMulT3, rMul3, rMod3, rDiv3, rPow3, rLt3, rLe3, rGt3, rGe3, rEqS3, rNeS3, rIs3, rIsNot3, rInt, rInt0, L3.isNon, rNeg3, rIntOf3, rInt2, rReprD3, rLen3, rIx3, seq3, lst3, own3, atI_lit, ixN_lit, atI_neg1, List.getElem?_cons_zero, List.getElem?_cons_succ, List.set_cons_zero, List.set_cons_succ, List.getLast?, List.dropLast, List.set_set, tIsi3, tSl3, tSlN3, tPart3, tNoPart3, tZipI3, tZipM3, tEnumerateI3, tEnumA3, tEnumS3, tRepl3, tEnumR3, tReversedI3, tTupRev3, tLstOf3, rBls3, rInts3, rSumA3, rAbs3, rTupOf3, rMulS3, rIntT3, tExt3, rIn3, rInA3, tSortedI3, tSortedD3, rLtD3, tRev3, tDNew3, tDGet3, tDPut3, tDIn3, rMaxT3, tSetLL3, rIxL3, lls3, tIns3, tIdxL3, tTNew3, tTGet3, tTPut3, tTIn3, dic3, rLenA3, dik3, key3, tRgA3, tRgB3, tLstRgA, tLstRgB, tTupRgA, tTupRgB, tAug3, tAugI3, tDLit3, tPairs3, keysD, keyD, tRg3, rEqL3, rNeL3, L3.data3, tSortSet3, tRepN3, tPopAt3, L3.under, isTy, decide_eq_true_eq, Bool.not_eq_true', env0, List.map, List.length_cons, List.length_nil, List.replicate, List.cons_append, List.nil_append, Nat.sub_self, Nat.reduceAdd, Nat.reduceSub, eqv_int, shaped_int, shaped_none, eqv_ni, eqv_in, eqv_str_self, shaped_ofStr, and_self, true_and, beq_iff_eq, bne_iff_ne, if_true, if_false, Bool.false_eq_true, List.length_set, Nat.reduceLT, Int.reduceLT, Int.reduceLE, Int.reduceToNat, Int.reducePow, Int.reduceMul, Int.reduceMod, Int.reduceAdd, Int.reduceSub, Int.reduceNeg, sizeLine_eq, Nat.reduceLeDiff, String.reduceBEq, String.reduceEq, beq_self_eq_true, beq_eq_false_iff_ne, ne_eq, decide_eq_false_iff_not, not_true_eq_false, not_false_eq_true, Bool.true_eq_false, Bool.or_true, Bool.or_false, reduceIte, ite_true, ite_false, decide_true, decide_false, Bool.not_true, Bool.not_false, Bool.and_true, Bool.true_and, List.length_map])

theorem pt_take_one {α : Type} {xs : List α} {i : Nat} {x : α} (h : xs[i]? = some x) : xs.take (i + 1) = xs.take i ++ [x] := by
  rw [List.take_add_one, h]
  rfl
theorem pt_atI {α : Type} {xs : List α} {d : Int} (h0 : 0 ≤ d) (h1 : d < (xs.length : Int)) : ∃ (j : Nat) (x : α), d = (j : Int) ∧ j < xs.length ∧ xs[j]? = some x ∧ atI xs d = some x := by
  obtain ⟨j, rfl⟩ := Int.eq_ofNat_of_zero_le h0
  have hj : j < xs.length := by omega
  exact ⟨j, xs[j], rfl, hj, List.getElem?_eq_getElem hj, atI_nat (List.getElem?_eq_getElem hj)⟩
/-- the pot of drawn numbers: its own list at m, its words -/
def kOwn : Key := .inr (PySem.Str.ofString "own")
def kSeed : Key := .inr (PySem.Str.ofString "seed")
def kTurn : Key := .inr (PySem.Str.ofString "turn")
def potD (m : Nat) (x t : Int) : List (Key × D) := [(kOwn, .loc m), (kSeed, .p (.int x)), (kTurn, .p (.int t))]
theorem k_os : ¬ kOwn = kSeed := by decide +kernel
theorem k_ot : ¬ kOwn = kTurn := by decide +kernel
theorem k_st : ¬ kSeed = kTurn := by decide +kernel
theorem potD_own (m : Nat) (x t : Int) : valD (potD m x t) (.inr (PySem.Str.ofString "own")) = some (.loc m) := by
  show valD (potD m x t) kOwn = _
  simp [valD, potD]
theorem potD_seed (m : Nat) (x t : Int) : valD (potD m x t) (.inr (PySem.Str.ofString "seed")) = some (.p (.int x)) := by
  show valD (potD m x t) kSeed = _
  simp [valD, potD, k_os]
theorem potD_turn (m : Nat) (x t : Int) : valD (potD m x t) (.inr (PySem.Str.ofString "turn")) = some (.p (.int t)) := by
  show valD (potD m x t) kTurn = _
  simp [valD, potD, k_ot, k_st]
theorem potD_put (m : Nat) (x t t' : Int) : putD (potD m x t) (.inr (PySem.Str.ofString "turn")) (.p (.int t')) = potD m x t' := by
  show putD (potD m x t) kTurn _ = _
  simp [putD, potD, k_ot, k_st]
theorem potD_len (m : Nat) (x t : Int) : (potD m x t).length = 3 := rfl
theorem potD_merge (m : Nat) (x t : Int) : mergeD [] [(.inr (PySem.Str.ofString "own"), .loc m), (.inr (PySem.Str.ofString "seed"), .p (.int x)), (.inr (PySem.Str.ofString "turn"), .p (.int t))] = potD m x t := by
  show mergeD [] [(kOwn, .loc m), (kSeed, .p (.int x)), (kTurn, .p (.int t))] = _
  have a := k_os
  have b := k_ot
  have c := k_st
  simp [mergeD, putD, potD, k_os, k_ot, k_st]
def PtB (S : S3) (m : Nat) (b : Int) : Prop := ∃ (ws : List Int) (x t : Int), S[m]? = some (some (.lst (ws.map PyData.int))) ∧ S[m + 1]? = some (some (.dik (potD m x t))) ∧ 0 ≤ t ∧ t ≤ b
def PtTo (m : Nat) (S S' : S3) : Prop := ∃ (ws : List Int) (x t : Int), S' = (S.set m (some (.lst (ws.map PyData.int)))).set (m + 1) (some (.dik (potD m x t)))
theorem PtB.le {S : S3} {m : Nat} {b b' : Int} (h : PtB S m b) (hb : b ≤ b') : PtB S m b' := let ⟨ws, x, t, e1, e2, h0, h1⟩ := h; ⟨ws, x, t, e1, e2, h0, by omega⟩
theorem PtB.lt {S : S3} {m : Nat} {b : Int} (h : PtB S m b) : m + 1 < S.length := by
  obtain ⟨_, _, _, _, e, _⟩ := h
  exact (List.getElem?_eq_some_iff.mp e).1
theorem PtTo.len {S S' : S3} {m : Nat} (h : PtTo m S S') : S'.length = S.length := by
  obtain ⟨_, _, _, rfl⟩ := h
  simp
theorem PtTo.trans {S S' S'' : S3} {m : Nat} (h : PtTo m S S') (h' : PtTo m S' S'') : PtTo m S S'' := by
  obtain ⟨ws, x, t, rfl⟩ := h
  obtain ⟨ws', x', t', rfl⟩ := h'
  refine ⟨ws', x', t', ?_⟩
  rw [List.set_comm _ _ (show m ≠ m + 1 by omega), List.set_set, List.set_comm _ _ (show m + 1 ≠ m by omega), List.set_set]
theorem PtTo.refl {S : S3} {m : Nat} {b : Int} (h : PtB S m b) : PtTo m S S := by
  obtain ⟨ws, x, t, e1, e2, _⟩ := h
  obtain ⟨h1, e1'⟩ := List.getElem?_eq_some_iff.mp e1
  obtain ⟨h2, e2'⟩ := List.getElem?_eq_some_iff.mp e2
  refine ⟨ws, x, t, ?_⟩
  have a : S.set m (some (.lst (ws.map PyData.int))) = S := by rw [← e1', List.set_getElem_self]
  rw [a, ← e2', List.set_getElem_self]
theorem PtTo.other {S S' : S3} {m n : Nat} (h : PtTo m S S') (h1 : n ≠ m) (h2 : n ≠ m + 1) : S'[n]? = S[n]? := by
  obtain ⟨_, _, _, rfl⟩ := h
  rw [List.getElem?_set_ne (Ne.symm h2), List.getElem?_set_ne (Ne.symm h1)]
theorem fin_pt {m : Nat} {S S' : S3} {Q : K3} {d : PyData} (h : PtTo m S S') (q : Q (.p d) S') : Fin3 S Q (.p d) S' := fin_all (by rw [h.len]; exact Nat.le_refl _) trivial q
theorem canLayAll0_ints : ∀ ws : List Int, PyData.canLayAll0 (ws.map PyData.int) = true
  | [] => by rw [List.map_nil]; unfold PyData.canLayAll0; rfl
  | w :: ws => by
    rw [List.map_cons]
    unfold PyData.canLayAll0
    rw [canLayAll0_ints ws]
    rfl
theorem depthAll_ints : ∀ ws : List Int, PyData.depthAll (ws.map PyData.int) = 0
  | [] => by rw [List.map_nil]; unfold PyData.depthAll; rfl
  | w :: ws => by
    rw [List.map_cons]
    unfold PyData.depthAll
    rw [depthAll_ints ws]
    rfl
theorem shaped_ints (ws : List Int) : SeqAt.shaped (.list (ws.map PyData.int)) = true := by
  unfold SeqAt.shaped PyData.canLay0 PyData.depth
  rw [canLayAll0_ints, depthAll_ints]
  rfl
theorem shaped_nil : SeqAt.shaped (.list []) = true := shaped_ints []
theorem eqv_ints (a b : List Int) : PyData.eqv (.list (a.map PyData.int)) (.list (b.map PyData.int)) = decide (a = b) := by
  simp only [PyData.eqv]
  exact eqvAll_ints a b
theorem eqv_nil (ws : List Int) : PyData.eqv (.list (ws.map PyData.int)) (.list []) = decide (ws = []) := eqv_ints ws []
theorem mulOk_lit {i j : Int} (h : -18446744073709551616 < i ∧ i < 18446744073709551616) : MulOk i j := .inl h
theorem mulOk_lit' {i j : Int} (h : -18446744073709551616 < j ∧ j < 18446744073709551616) : MulOk i j := .inr (.inl h)
theorem cut3_to {α : Type} (xs : List α) (s : Nat) : cut3 xs none (some (s : Int)) = xs.take s := by
  unfold cut3
  rw [HT.sIx_nat, HT.sIx_none, List.drop_zero, Nat.sub_zero]
  by_cases h : s ≤ xs.length
  · rw [Nat.min_eq_left h]
  · rw [Nat.min_eq_right (by omega), List.take_length, List.take_of_length_le (by omega)]
theorem cut3_from {α : Type} (xs : List α) (s : Nat) : cut3 xs (some (s : Int)) none = xs.drop s := by
  unfold cut3
  rw [HT.sIx_nat, HT.sIx_none]
  by_cases h : s ≤ xs.length
  · rw [Nat.min_eq_left h]
    exact List.take_of_length_le (by rw [List.length_drop]; exact Nat.le_refl _)
  · rw [Nat.min_eq_right (by omega), Nat.sub_self, List.take_zero, List.drop_eq_nil_of_le (by omega)]
theorem PtTo.own {S : S3} {m : Nat} {x t : Int} (ws : List Int) (e : S[m + 1]? = some (some (.dik (potD m x t)))) : PtTo m S (S.set m (some (.lst (ws.map PyData.int)))) := by
  obtain ⟨h2, e'⟩ := List.getElem?_eq_some_iff.mp e
  refine ⟨ws, x, t, ?_⟩
  rw [List.set_comm _ _ (show m ≠ m + 1 by omega), ← e', List.set_getElem_self]
theorem PtTo.word {S : S3} {m : Nat} {ws : List Int} (x t : Int) (e : S[m]? = some (some (.lst (ws.map PyData.int)))) : PtTo m S (S.set (m + 1) (some (.dik (potD m x t)))) := by
  obtain ⟨h2, e'⟩ := List.getElem?_eq_some_iff.mp e
  refine ⟨ws, x, t, ?_⟩
  rw [← e', List.set_getElem_self]
theorem shaped_tints (ws : List Int) : SeqAt.shaped (.tuple (ws.map PyData.int)) = true := by
  unfold SeqAt.shaped PyData.canLay0 PyData.depth
  rw [canLayAll0_ints, depthAll_ints]
  rfl
theorem eqv_tints (a b : List Int) : PyData.eqv (.tuple (a.map PyData.int)) (.tuple (b.map PyData.int)) = decide (a = b) := by
  simp only [PyData.eqv]
  exact eqvAll_ints a b

/-- a hand of two: great digits, a mixed number -/
def H2 (S : S3) (n : Nat) : Prop := ∃ g x : Int, S[n]? = some (some (.lst [.int g, .int x])) ∧ 0 ≤ x ∧ x < 2147483647
def H2To (n : Nat) (S S' : S3) : Prop := ∃ g x : Int, S' = S.set n (some (.lst [.int g, .int x]))
theorem H2.lt {S : S3} {n : Nat} (h : H2 S n) : n < S.length := by
  obtain ⟨_, _, e, _⟩ := h
  exact (List.getElem?_eq_some_iff.mp e).1
theorem H2To.len {S S' : S3} {n : Nat} (h : H2To n S S') : S'.length = S.length := by
  obtain ⟨_, _, rfl⟩ := h
  simp
theorem H2To.trans {S S' S'' : S3} {n : Nat} (h : H2To n S S') (h' : H2To n S' S'') : H2To n S S'' := by
  obtain ⟨g, x, rfl⟩ := h
  obtain ⟨g', x', rfl⟩ := h'
  exact ⟨g', x', by rw [List.set_set]⟩
theorem H2To.refl {S : S3} {n : Nat} (h : H2 S n) : H2To n S S := by
  obtain ⟨g, x, e, _⟩ := h
  obtain ⟨hl, e'⟩ := List.getElem?_eq_some_iff.mp e
  exact ⟨g, x, by rw [← e', List.set_getElem_self]⟩
theorem fin_h2 {n : Nat} {S S' : S3} {Q : K3} {d : PyData} (h : H2To n S S') (q : Q (.p d) S') : Fin3 S Q (.p d) S' := fin_all (by rw [h.len]; exact Nat.le_refl _) trivial q

theorem shaped_lints (ws : List Int) : SeqAt.shaped (.list (ws.map PyData.int)) = true := by
  unfold SeqAt.shaped PyData.canLay0 PyData.depth
  rw [canLayAll0_ints, depthAll_ints0]
  rfl
theorem eqv_lints (a b : List Int) : PyData.eqv (.list (a.map PyData.int)) (.list (b.map PyData.int)) = decide (a = b) := by
  simp only [PyData.eqv]
  exact eqvAll_ints a b

/-- rows of ints in order -/
def lexI : List Int → List Int → Bool
  | [], [] => false
  | [], _ :: _ => true
  | _ :: _, [] => false
  | a :: as, b :: bs => if a = b then lexI as bs else decide (a < b)
theorem lexI_data : ∀ a b : List Int, PyProof.Rows.lexLt itemOrd (PySem.W.keyToksAll (a.map PyData.int)) (PySem.W.keyToksAll (b.map PyData.int)) = lexI a b
  | [], [] => by
    have := PySem.W.lex_pre [Sum.inl 0] [] []
    rw [List.map_nil]
    unfold PySem.W.keyToksAll
    exact this.trans rfl
  | [], b :: bs => by
    rw [List.map_nil, List.map_cons, PySem.W.toks_all_cons]
    unfold PySem.W.keyToksAll
    rw [PySem.W.lex_atom (by simp), PySem.W.lex_one]
    rfl
  | a :: as, [] => by
    rw [List.map_nil, List.map_cons, PySem.W.toks_all_cons]
    unfold PySem.W.keyToksAll
    rw [PySem.W.lex_atom (by simp), PySem.W.lex_one]
    rfl
  | a :: as, b :: bs => by
    rw [List.map_cons, List.map_cons]
    unfold lexI
    by_cases h : a = b
    · subst h
      rw [if_pos rfl, PySem.W.dataLt_all_yes rfl (by rw [eqv_int]; simp), lexI_data as bs]
    · rw [if_neg h, PySem.W.dataLt_all_no rfl (by rw [eqv_int]; simpa using h), PySem.W.dataLt_int]
theorem dataLt_tupI (a b : List Int) : PySem.W.dataLt (tupI a) (tupI b) = lexI a b := by
  unfold tupI
  rw [PySem.W.dataLt_tuple]
  exact lexI_data a b
theorem lexI_irr : ∀ a : List Int, lexI a a = false
  | [] => rfl
  | a :: as => by unfold lexI; rw [if_pos rfl, lexI_irr as]
theorem lexI_tot : ∀ {a b : List Int}, lexI a b = false → lexI b a = false → a = b
  | [], [], _, _ => rfl
  | [], _ :: _, h, _ => by cases h
  | _ :: _, [], _, h => by cases h
  | a :: as, b :: bs, h, h' => by
    unfold lexI at h h'
    by_cases e : a = b
    · subst e
      rw [if_pos rfl] at h h'
      rw [lexI_tot h h']
    · rw [if_neg e] at h
      rw [if_neg (Ne.symm e)] at h'
      have h1 := of_decide_eq_false h
      have h2 := of_decide_eq_false h'
      omega
theorem lexI_asym : ∀ {a b : List Int}, lexI a b = true → lexI b a = false
  | [], [], h => by cases h
  | [], _ :: _, _ => rfl
  | _ :: _, [], h => by cases h
  | a :: as, b :: bs, h => by
    unfold lexI at h ⊢
    by_cases e : a = b
    · subst e
      rw [if_pos rfl] at h ⊢
      exact lexI_asym h
    · rw [if_neg e] at h
      rw [if_neg (Ne.symm e)]
      have h1 := of_decide_eq_true h
      exact decide_eq_false (by omega)
theorem lexI_tr : ∀ {a b c : List Int}, lexI a b = true → lexI b c = true → lexI a c = true
  | [], _, [], h, h' => by
    have := lexI_asym h
    rw [h'] at this
    cases this
  | [], _, _ :: _, _, _ => rfl
  | _ :: _, [], _, h, _ => by cases h
  | _ :: _, _ :: _, [], _, h => by cases h
  | a :: as, b :: bs, c :: cs, h, h' => by
    unfold lexI at h h' ⊢
    by_cases e : a = b
    · subst e
      rw [if_pos rfl] at h
      by_cases e' : a = c
      · subst e'
        rw [if_pos rfl] at h' ⊢
        exact lexI_tr h h'
      · rw [if_neg e'] at h' ⊢
        exact h'
    · rw [if_neg e] at h
      have h1 := of_decide_eq_true h
      by_cases e' : b = c
      · subst e'
        rw [if_neg e]
        exact h
      · rw [if_neg e'] at h'
        have h2 := of_decide_eq_true h'
        rw [if_neg (by omega)]
        exact decide_eq_true (by omega)
def leI (a b : List Int) : Bool := !lexI b a
theorem leI_total (a b : List Int) : (leI a b || leI b a) = true := by
  unfold leI
  cases h : lexI b a with
  | false => rfl
  | true => rw [lexI_asym h]; rfl
theorem leI_trans (a b c : List Int) (h : leI a b = true) (h' : leI b c = true) : leI a c = true := by
  unfold leI at *
  simp only [Bool.not_eq_true'] at *
  cases e : lexI c a with
  | false => rfl
  | true =>
    exfalso
    by_cases hc : c = b
    · subst hc
      rw [e] at h
      cases h
    · have hcb : lexI b c = true := by
        cases x : lexI b c with
        | true => rfl
        | false => exact absurd (lexI_tot h' x) hc
      have := lexI_tr hcb e
      rw [h] at this
      cases this
theorem leI_anti {a b : List Int} (h : leI a b = true) (h' : leI b a = true) : a = b := by
  unfold leI at h h'
  simp only [Bool.not_eq_true'] at h h'
  exact lexI_tot h' h
theorem eq_sorted {α : Type} {R : α → α → Prop} (anti : ∀ a b, R a b → R b a → a = b) : ∀ {l l' : List α}, l.Perm l' → l.Pairwise R → l'.Pairwise R → l = l'
  | [], l', p, _, _ => (List.Perm.nil_eq p)
  | a :: l, [], p, _, _ => by
    have := p.length_eq
    simp at this
  | a :: l, b :: l', p, h, h' => by
    obtain ⟨h1, h2⟩ := List.pairwise_cons.mp h
    obtain ⟨h3, h4⟩ := List.pairwise_cons.mp h'
    have e : a = b := by
      have ha : a ∈ b :: l' := p.mem_iff.mp List.mem_cons_self
      have hb : b ∈ a :: l := p.mem_iff.mpr List.mem_cons_self
      rcases List.mem_cons.mp ha with e | ha
      · exact e
      · rcases List.mem_cons.mp hb with e | hb
        · exact e.symm
        · exact anti a b (h1 b hb) (h3 a ha)
    subst e
    rw [eq_sorted anti (List.perm_cons a |>.mp p) h2 h4]
/-- rows of ints sorted: any rising rearrangement is it -/
theorem sortD_rows {l l' : List (List Int)} (p : l.Perm l') (h : l'.Pairwise fun a b => lexI a b = true) : sortD (l.map tupI) = l'.map tupI := by
  have e : (l.map tupI).mergeSort (PySem.W.dataLe false id) = (l.mergeSort leI).map tupI := by
    refine (List.map_mergeSort (f := tupI) (r := leI) (s := PySem.W.dataLe false id) (l := l) fun a _ b _ => ?_).symm
    show leI a b = _
    rw [PySem.W.dataLe_eq]
    show leI a b = !PySem.W.dataLt (tupI b) (tupI a)
    rw [dataLt_tupI]
    rfl
  unfold sortD
  rw [e]
  congr 1
  refine eq_sorted (R := fun a b => leI a b = true) (fun a b => leI_anti) ((List.mergeSort_perm l leI).trans p) (List.pairwise_mergeSort leI_trans leI_total l) (h.imp fun {a b} h => ?_)
  unfold leI
  rw [lexI_asym h]
  rfl
theorem alike_rows (l : List (List Int)) (n : Nat) (hl : ∀ k ∈ l, k.length = n) : PySem.W.AllAlike (l.map tupI) := by
  have go : ∀ (a b : List Int), PySem.W.alikeAll (a.map PyData.int) (b.map PyData.int) = true := by
    intro a
    induction a with
    | nil => intro b; simp [PySem.W.alikeAll]
    | cons x xs ih =>
      intro b
      cases b with
      | nil => simp [PySem.W.alikeAll]
      | cons y ys =>
        rw [List.map_cons, List.map_cons, PySem.W.alikeAll, ih ys]
        rfl
  intro d hd d' hd'
  obtain ⟨a, _, rfl⟩ := List.mem_map.mp hd
  obtain ⟨b, _, rfl⟩ := List.mem_map.mp hd'
  unfold tupI
  rw [PySem.W.alike]
  exact go a b
theorem sortable_rows (l : List (List Int)) (hl : ∀ k ∈ l, k ≠ []) : PySem.W.Sortable (l.map tupI) := .inl fun d hd => by
  obtain ⟨a, ha, rfl⟩ := List.mem_map.mp hd
  cases a with
  | nil => exact absurd rfl (hl _ ha)
  | cons x xs => exact ⟨.int x, xs.map PyData.int, rfl⟩
theorem depth_rows (l : List (List Int)) : ∀ d ∈ l.map tupI, d.depth ≤ 60 := fun d hd => by
  obtain ⟨a, _, rfl⟩ := List.mem_map.mp hd
  unfold tupI PyData.depth
  rw [depthAll_ints]
  decide

/-- lookups behind stores -/
theorem valE_any {κ β : Type} [DecidableEq κ] (k : κ) : ∀ kvs : List (κ × β), (kvs.any fun kv => decide (kv.1 = k)) = (valE kvs k).isSome
  | [] => rfl
  | p :: r => by
    rw [List.any_cons, valE_any k r]
    by_cases e : p.1 = k
    · simp [valE, List.find?_cons, e]
    · simp [valE, List.find?_cons, e]
theorem valE_new {κ β : Type} [DecidableEq κ] {kvs : List (κ × β)} {k : κ} (y : β) (h : valE kvs k = none) : putE kvs k y = kvs ++ [(k, y)] := by
  unfold putE
  rw [valE_any, h, if_neg (by simp)]
theorem valE_snoc {κ β : Type} [DecidableEq κ] (k j : κ) (y : β) : ∀ kvs : List (κ × β), valE kvs k = none → valE (kvs ++ [(k, y)]) j = if j = k then some y else valE kvs j
  | [], _ => by
    by_cases e : j = k
    · simp [valE, List.find?_cons, e]
    · simp [valE, List.find?_cons, e, Ne.symm e]
  | p :: r, h => by
    have hp : ¬ p.1 = k := fun e => by simp [valE, List.find?_cons, e] at h
    have hr : valE r k = none := by
      have : valE (p :: r) k = valE r k := by simp [valE, List.find?_cons, hp]
      rw [← this]; exact h
    have ih := valE_snoc k j y r hr
    rw [List.cons_append]
    by_cases e : p.1 = j
    · have hjk : ¬ j = k := fun z => hp (e.trans z)
      rw [if_neg hjk]
      simp [valE, List.find?_cons, e]
    · have a : valE (p :: (r ++ [(k, y)])) j = valE (r ++ [(k, y)]) j := by simp [valE, List.find?_cons, e]
      have b : valE (p :: r) j = valE r j := by simp [valE, List.find?_cons, e]
      rw [a, b, ih]
/-- windows as keys -/
def kK (v : List Int) : List Key := v.map Sum.inl
theorem kK_inj : ∀ {a b : List Int}, kK a = kK b → a = b
  | [], [], _ => rfl
  | [], _ :: _, h => by cases h
  | _ :: _, [], h => by cases h
  | x :: xs, y :: ys, h => by
    unfold kK at h
    rw [List.map_cons, List.map_cons, List.cons.injEq] at h
    rw [Sum.inl.inj h.1, kK_inj h.2]
theorem keysT_ints : ∀ v : List Int, keysT (v.map PyData.int) = some (kK v)
  | [] => rfl
  | x :: v => by
    rw [List.map_cons]
    unfold keysT
    rw [keysT_ints v]
    rfl
theorem keyT_tup {v : List Int} (h : v ≠ []) : keyT (.p (.tuple (v.map PyData.int))) = some (kK v) := by
  cases v with
  | nil => exact absurd rfl h
  | cons x v => exact keysT_ints (x :: v)

theorem zip3_at {xs ys : List PyData} {i : Nat} {d : PyData} (h : (zip3 xs ys)[i]? = some d) : ∃ a b, xs[i]? = some a ∧ ys[i]? = some b ∧ d = .tuple [a, b] := by
  unfold zip3 at h
  rw [List.getElem?_map] at h
  obtain ⟨p, hp, rfl⟩ := Option.map_eq_some_iff.mp h
  obtain ⟨h1, h2⟩ := List.getElem?_zip_eq_some.mp hp
  exact ⟨p.1, p.2, h1, h2, rfl⟩
theorem enum3_at {xs : List PyData} {i : Nat} {d : PyData} (h : (enum3 xs)[i]? = some d) : ∃ x, xs[i]? = some x ∧ d = .tuple [.int (i : Nat), x] := by
  unfold enum3 at h
  rw [List.getElem?_map] at h
  obtain ⟨p, hp, rfl⟩ := Option.map_eq_some_iff.mp h
  rw [List.getElem?_zipIdx] at hp
  obtain ⟨x, hx, rfl⟩ := Option.map_eq_some_iff.mp hp
  exact ⟨x, hx, by simp⟩
theorem enum3_ln (xs : List PyData) : (enum3 xs).length = xs.length := by
  unfold enum3
  rw [List.length_map, List.length_zipIdx]

theorem ixN_nat (n k : Nat) (h : k < n) : ixN n (k : Int) = some k := by
  unfold ixN
  rw [if_pos (by omega)]
  simp [h]
theorem rep3_one {α : Type} (x : α) (n : Nat) : rep3 [x] (n : Int) = List.replicate n x := by
  unfold rep3
  rw [Int.toNat_natCast, List.flatten_replicate_singleton]
/-- the store while the law's table stands in it: its rows, itself -/
def MS (M : List (List PyData)) : S3 := M.map fun l => some (O3.lst l)
def locsL (n h : Nat) : List D := (List.range h).map fun j => D.loc (n + j)
def tblS (S : S3) (M : List (List PyData)) (h : Nat) : S3 := S ++ MS M ++ [some (O3.lls (locsL S.length h))]
theorem locsL_len (n h : Nat) : (locsL n h).length = h := by unfold locsL; rw [List.length_map, List.length_range]
theorem locsL_at (n h r : Nat) (hr : r < h) : (locsL n h)[r]? = some (D.loc (n + r)) := by
  unfold locsL
  rw [List.getElem?_map, List.getElem?_range hr]
  rfl
theorem MS_len (M : List (List PyData)) : (MS M).length = M.length := by unfold MS; rw [List.length_map]
theorem tblS_row {S : S3} {M : List (List PyData)} {h r : Nat} {l : List PyData} (hr : M[r]? = some l) : (tblS S M h)[S.length + r]? = some (some (.lst l)) := by
  have hl := (List.getElem?_eq_some_iff.mp hr).1
  unfold tblS
  rw [List.getElem?_append_left (by rw [List.length_append, MS_len]; omega), List.getElem?_append_right (by omega), Nat.add_sub_cancel_left]
  unfold MS
  rw [List.getElem?_map, hr]
  rfl
theorem tblS_all {S : S3} {M : List (List PyData)} {h : Nat} (e : M.length = h) : (tblS S M h)[S.length + h]? = some (some (.lls (locsL S.length h))) := by
  unfold tblS
  rw [List.getElem?_append_right (by rw [List.length_append, MS_len]; omega), List.length_append, MS_len, e, Nat.sub_self]
  rfl
theorem tblS_set {S : S3} {M : List (List PyData)} {h r : Nat} {l : List PyData} (hr : r < M.length) : (tblS S M h).set (S.length + r) (some (.lst l)) = tblS S (M.set r l) h := by
  unfold tblS
  rw [List.set_append_left _ _ (by rw [List.length_append, MS_len]; omega), List.set_append_right _ _ (by omega), Nat.add_sub_cancel_left]
  unfold MS
  rw [List.map_set]
theorem tblS_len (S : S3) (M : List (List PyData)) (h : Nat) : (tblS S M h).length = S.length + M.length + 1 := by
  unfold tblS
  rw [List.length_append, List.length_append, MS_len]
  rfl
theorem take_set_le {α : Type} (s : List α) (n k : Nat) (o : α) (h : k ≤ n) : (s.set n o).take k = s.take k := by
  rw [List.take_set]
  exact List.set_eq_of_length_le (by rw [List.length_take]; omega)
theorem noneAll_take (k : Nat) : ∀ (ns : List Nat) (S : S3), (∀ n ∈ ns, k ≤ n) → (noneAll S ns).take k = S.take k
  | [], S, _ => rfl
  | n :: ns, S, h => by
    show (noneAll (S.set n none) ns).take k = _
    rw [noneAll_take k ns _ fun m hm => h m (List.mem_cons_of_mem _ hm), take_set_le _ _ _ _ (h n List.mem_cons_self)]
theorem noneAll_len : ∀ (ns : List Nat) (S : S3), (noneAll S ns).length = S.length
  | [], S => rfl
  | n :: ns, S => by
    show (noneAll (S.set n none) ns).length = _
    rw [noneAll_len ns, List.length_set]
theorem tblS_take (S : S3) (M : List (List PyData)) (h : Nat) : (tblS S M h).take S.length = S := by
  unfold tblS
  rw [List.append_assoc, List.take_left]

theorem take_one {α : Type} {xs : List α} {i : Nat} {x : α} (h : xs[i]? = some x) : xs.take (i + 1) = xs.take i ++ [x] := by
  rw [List.take_add_one, h]
  rfl
abbrev Fp := Nat × Nat
def pD (p : Fp) : PyData := .tuple [.int (p.1 : Nat), .int (p.2 : Nat)]
def csD (cs : List Fp) : PyData := .tuple (cs.map pD)
theorem maxI_mem {ns : List Int} (h : ns ≠ []) : maxI ns ∈ ns := by
  cases ns with
  | nil => exact absurd rfl h
  | cons x xs =>
    obtain ⟨h1, h2, h3⟩ := maxI_go xs x
    rcases h3 with h3 | h3
    · exact List.mem_cons.mpr (.inl h3)
    · exact List.mem_cons_of_mem _ h3
theorem foldl_max_ge : ∀ (ns : List Int) (a : Int), a ≤ ns.foldl (fun m x => if x > m then x else m) a ∧ ∀ x ∈ ns, x ≤ ns.foldl (fun m x => if x > m then x else m) a
  | [], a => ⟨Int.le_refl _, fun _ h => nomatch h⟩
  | y :: ns, a => by
    obtain ⟨h1, h2⟩ := foldl_max_ge ns (if y > a then y else a)
    have ha : a ≤ (if y > a then y else a) := by split <;> omega
    have hy : y ≤ (if y > a then y else a) := by split <;> omega
    rw [List.foldl_cons]
    refine ⟨Int.le_trans ha h1, fun x hx => ?_⟩
    rcases List.mem_cons.mp hx with rfl | hx
    · exact Int.le_trans hy h1
    · exact h2 x hx
theorem maxI_ge {ns : List Int} {x : Int} (h : x ∈ ns) : x ≤ maxI ns := by
  cases ns with
  | nil => cases h
  | cons n ns =>
    obtain ⟨h1, h2⟩ := foldl_max_ge ns n
    rcases List.mem_cons.mp h with rfl | h
    · exact h1
    · exact h2 x h
def plI (p : Nat × Nat) : List Int := [(p.1 : Int), (p.2 : Int)]
theorem plI_inj {p q : Nat × Nat} (h : plI p = plI q) : p = q := by
  unfold plI at h
  simp only [List.cons.injEq, and_true] at h
  exact Prod.ext (by omega) (by omega)
def plK (p : Nat × Nat) : List Key := kK (plI p)
theorem val_views (f : Nat × Nat → PyData) {p : Nat × Nat} : ∀ {L : List (Nat × Nat)}, p ∈ L → valE (L.map fun p => (plK p, f p)) (plK p) = some (f p)
  | q :: L, h => by
    rw [List.map_cons]
    by_cases hq : q = p
    · subst hq
      unfold valE
      rw [List.find?_cons, decide_eq_true rfl]
      rfl
    · have hne : ¬ plK q = plK p := fun z => hq (plI_inj (kK_inj z))
      rcases List.mem_cons.mp h with e | e
      · exact absurd e.symm hq
      · have ih := val_views f e
        unfold valE at ih ⊢
        rw [List.find?_cons, decide_eq_false hne]
        exact ih
def bxK (l : List (Nat × Nat)) : List (List Key × PyData) := l.map fun p => (plK p, .bool true)
theorem val_no (f : Nat × Nat → PyData) {p : Nat × Nat} : ∀ {L : List (Nat × Nat)}, p ∉ L → valE (L.map fun p => (plK p, f p)) (plK p) = none
  | [], _ => rfl
  | q :: L, h => by
    have hne : ¬ plK q = plK p := fun z => h (by rw [plI_inj (kK_inj z)]; exact List.mem_cons_self)
    have ih := val_no f (L := L) fun z => h (List.mem_cons_of_mem _ z)
    unfold valE at ih ⊢
    rw [List.map_cons, List.find?_cons, decide_eq_false hne]
    exact ih
theorem bx_put {l : List (Nat × Nat)} {p : Nat × Nat} (h : p ∉ l) : putE (bxK l) (plK p) (.bool true) = bxK (l ++ [p]) := by
  unfold bxK
  rw [valE_new _ (val_no (fun _ => .bool true) h), List.map_append]
  rfl
theorem bx_in (l : List (Nat × Nat)) (p : Nat × Nat) : (valE (bxK l) (plK p)).isSome = decide (p ∈ l) := by
  unfold bxK
  by_cases h : p ∈ l
  · rw [val_views (fun _ => .bool true) h]
    simp [h]
  · rw [val_no (fun _ => .bool true) h]
    simp [h]
theorem keyT_pl (p : Nat × Nat) : keyT (.p (.tuple [.int (p.1 : Nat), .int (p.2 : Nat)])) = some (plK p) := keyT_tup (v := plI p) (by unfold plI; simp)
theorem bxK_len (l : List (Nat × Nat)) : (bxK l).length = l.length := by unfold bxK; rw [List.length_map]
theorem bx_put_in {l : List (Nat × Nat)} {p : Nat × Nat} (h : p ∈ l) : putE (bxK l) (plK p) (.bool true) = bxK l := by
  unfold putE
  rw [valE_any, bx_in, decide_eq_true h, if_pos rfl]
  unfold bxK
  rw [List.map_map]
  refine List.map_congr_left fun q hq => ?_
  show (if plK q = plK p then (plK q, PyData.bool true) else (plK q, PyData.bool true)) = _
  split <;> rfl
theorem sortD_ex (l : List (List Int)) : ∃ l' : List (List Int), l.Perm l' ∧ sortD (l.map tupI) = l'.map tupI := by
  have e : (l.map tupI).mergeSort (PySem.W.dataLe false id) = (l.mergeSort leI).map tupI := by
    refine (List.map_mergeSort (f := tupI) (r := leI) (s := PySem.W.dataLe false id) (l := l) fun a _ b _ => ?_).symm
    show leI a b = _
    rw [PySem.W.dataLe_eq]
    show leI a b = !PySem.W.dataLt (tupI b) (tupI a)
    rw [dataLt_tupI]
    rfl
  refine ⟨l.mergeSort leI, (List.mergeSort_perm l leI).symm, ?_⟩
  unfold sortD
  rw [e]
theorem to_pD : ∀ {l : List (List Int)}, (∀ k ∈ l, ∃ i j : Nat, k = [(i : Int), (j : Int)]) → ∃ cs : List Fp, l.map tupI = cs.map pD ∧ cs.length = l.length
  | [], _ => ⟨[], rfl, rfl⟩
  | k :: l, h => by
    obtain ⟨cs, e, hl⟩ := to_pD (l := l) fun k hk => h k (List.mem_cons_of_mem _ hk)
    obtain ⟨i, j, rfl⟩ := h k List.mem_cons_self
    exact ⟨(i, j) :: cs, by rw [List.map_cons, List.map_cons, e]; rfl, by simp [hl]⟩
theorem allP_intsF : ∀ l : List Int, allP int? (l.map PyData.int) = some l
  | [] => rfl
  | x :: l => by rw [List.map_cons]; unfold allP; rw [allP_intsF l]; rfl
theorem nd_map_of {α β : Type} {f : α → β} : ∀ {l : List α}, l.Nodup → (∀ x ∈ l, ∀ y ∈ l, f x = f y → x = y) → (l.map f).Nodup
  | [], _, _ => List.nodup_nil
  | a :: l, h, hf => by
    obtain ⟨h1, h2⟩ := List.nodup_cons.mp h
    rw [List.map_cons, List.nodup_cons]
    refine ⟨fun hm => ?_, nd_map_of h2 fun x hx y hy => hf x (List.mem_cons_of_mem _ hx) y (List.mem_cons_of_mem _ hy)⟩
    obtain ⟨b, hb, e⟩ := List.mem_map.mp hm
    have := hf b (List.mem_cons_of_mem _ hb) a List.mem_cons_self e
    rw [this] at hb
    exact h1 hb

/-- torn floors and their texts -/
def SG : Str := Str.ofString "0123456789abcdefghijklmnopqrstuvwxyz"
def sig (x : Nat) : Nat := if x < 10 then 48 + x else 87 + x
def sgT : Option Nat → Nat
  | none => 63
  | some x => sig x
def optN : Option Nat → PyData
  | none => .none
  | some x => .int (x : Nat)
def tor (T : List (List (Option Nat))) : PyData := .tuple (T.map fun r => .tuple (r.map optN))
def rowT (r : List (Option Nat)) : Str := ⟨(r.map sgT).toArray⟩
def slashS : Str := Str.ofString "/"
def floorT (T : List (List (Option Nat))) : Str := Txt.join slashS (T.map rowT)
structure Tor (w : Nat) (T : List (List (Option Nat))) : Prop where
  hi : T ≠ []
  wp : 0 < w
  wd : ∀ r ∈ T, r.length = w
  ar : T.length * w ≤ 600
  sg : ∀ r ∈ T, ∀ x, some x ∈ r → x < 36
theorem tl_rowT (r : List (Option Nat)) : TL.tl (rowT r) = r.map sgT := rfl
theorem rowT_len (r : List (Option Nat)) : (rowT r).length = r.length := by rw [TL.len_tl, tl_rowT, List.length_map]
theorem slashS_tl : TL.tl slashS = [47] := by decide +kernel
theorem slashS_len : slashS.length = 1 := by decide +kernel
theorem joinL_snoc (S : List Nat) : ∀ (ps : List (List Nat)) (p : List Nat), ps ≠ [] → TL.joinL S (ps ++ [p]) = TL.joinL S ps ++ (S ++ p)
  | [], p, h => absurd rfl h
  | [a], p, _ => rfl
  | a :: b :: r, p, _ => by
    show a ++ (S ++ TL.joinL S ((b :: r) ++ [p])) = a ++ (S ++ TL.joinL S (b :: r)) ++ (S ++ p)
    rw [joinL_snoc S (b :: r) p (by simp)]
    simp only [List.append_assoc]
theorem joinL_len (S : List Nat) (k : Nat) : ∀ ps : List (List Nat), (∀ p ∈ ps, p.length ≤ k) → (TL.joinL S ps).length ≤ ps.length * (k + S.length)
  | [], _ => Nat.zero_le _
  | [a], h => by
    have := h a List.mem_cons_self
    show a.length ≤ 1 * (k + S.length)
    omega
  | a :: b :: r, h => by
    have h1 := h a List.mem_cons_self
    have ih := joinL_len S k (b :: r) fun p hp => h p (List.mem_cons_of_mem _ hp)
    show (a ++ (S ++ TL.joinL S (b :: r))).length ≤ _
    rw [List.length_append, List.length_append, List.length_cons, Nat.succ_mul]
    omega
theorem joinL_nil : ∀ ps : List (List Nat), TL.joinL [] ps = ps.flatten
  | [] => rfl
  | [a] => by simp [TL.joinL]
  | a :: b :: r => by
    show a ++ ([] ++ TL.joinL [] (b :: r)) = _
    rw [joinL_nil (b :: r)]
    rfl
theorem joinL_mem {S : List Nat} {c : Nat} : ∀ {ps : List (List Nat)}, c ∈ TL.joinL S ps → c ∈ S ∨ ∃ p ∈ ps, c ∈ p
  | [], h => by cases h
  | [a], h => .inr ⟨a, List.mem_cons_self, h⟩
  | a :: b :: r, h => by
    have h : c ∈ a ++ (S ++ TL.joinL S (b :: r)) := h
    rcases List.mem_append.mp h with h | h
    · exact .inr ⟨a, List.mem_cons_self, h⟩
    · rcases List.mem_append.mp h with h | h
      · exact .inl h
      · rcases joinL_mem h with h | ⟨p, hp, h⟩
        · exact .inl h
        · exact .inr ⟨p, List.mem_cons_of_mem _ hp, h⟩
theorem tl_floorT (T : List (List (Option Nat))) : TL.tl (floorT T) = TL.joinL [47] (T.map fun r => r.map sgT) := by
  unfold floorT
  rw [TL.join_eq, TL.tl_join, List.map_map, slashS_tl]
  rfl
theorem floorT_snoc {T : List (List (Option Nat))} (r : List (Option Nat)) (h : T ≠ []) : floorT (T ++ [r]) = floorT T ++ slashS ++ rowT r := TL.ext_tl (by
  rw [tl_floorT, List.map_append, List.map_cons, List.map_nil, joinL_snoc _ _ _ (by simpa using h), TL.tl_append, TL.tl_append, tl_floorT, tl_rowT, slashS_tl, List.append_assoc])
theorem floorT_one (r : List (Option Nat)) : floorT [r] = rowT r := TL.ext_tl (by rw [tl_floorT]; rfl)
theorem floorT_nil : floorT [] = Str.ofString "" := TL.ext_tl (by rw [tl_floorT]; rfl)
theorem rowT_snoc (r : List (Option Nat)) (o : Option Nat) : rowT (r ++ [o]) = rowT r ++ ⟨#[sgT o]⟩ := TL.ext_tl (by
  rw [tl_rowT, List.map_append, TL.tl_append, tl_rowT]
  rfl)
theorem floorT_len {T : List (List (Option Nat))} {w : Nat} (h : ∀ r ∈ T, r.length ≤ w) : (floorT T).length ≤ T.length * (w + 1) := by
  rw [TL.len_tl, tl_floorT]
  have := joinL_len [47] w (T.map fun r => r.map sgT) fun p hp => by
    obtain ⟨r, hr, rfl⟩ := List.mem_map.mp hp
    rw [List.length_map]
    exact h r hr
  rw [List.length_map] at this
  exact this
theorem sig_at : ∀ x : Nat, x < 36 → SG.cps.toList[x]? = some (sig x) := by decide +kernel
theorem sig_free : ∀ x : Nat, x < 36 → sig x ≠ 47 ∧ sig x ≠ 63 ∧ sig x ≠ 46 := by decide
theorem sig_idx : ∀ x : Nat, x < 36 → (Builtin.Str.occurrences SG ⟨#[sig x]⟩ 0 SG.length 1).head? = some x := by decide +kernel
theorem SG_len : SG.length = 36 := by decide +kernel
theorem sgT_in {o : Option Nat} (h : ∀ x, o = some x → x < 36) : sgT o ∈ (SG ++ Str.ofString "?").cps.toList := by
  have e : (SG ++ Str.ofString "?").cps.toList = SG.cps.toList ++ [63] := TL.tl_append SG (Str.ofString "?")
  rw [e]
  cases o with
  | none => exact List.mem_append_right _ (List.mem_singleton.mpr rfl)
  | some x => exact List.mem_append_left _ (List.mem_of_getElem? (sig_at x (h x rfl)))
theorem split_floorT {w : Nat} {T : List (List (Option Nat))} (A : Tor w T) : Txt.split (floorT T) slashS = T.map rowT := by
  unfold floorT
  refine TL.split_join (s := 47) (S := []) slashS_tl (by decide +kernel) (by simpa using A.hi) fun p hp => ?_
  obtain ⟨r, hr, rfl⟩ := List.mem_map.mp hp
  rw [tl_rowT]
  intro hm
  obtain ⟨o, ho, e⟩ := List.mem_map.mp hm
  cases o with
  | none => cases e
  | some x => exact (sig_free x (A.sg r hr x ho)).1 e
theorem join_rowT (r : List (Option Nat)) : Txt.join (Str.ofString "") (r.map fun o => (⟨#[sgT o]⟩ : Str)) = rowT r := TL.ext_tl (by
  rw [TL.join_eq, TL.tl_join, List.map_map, show TL.tl (Str.ofString "") = [] from rfl, joinL_nil, tl_rowT]
  induction r with
  | nil => rfl
  | cons o r ih =>
    rw [List.map_cons, List.flatten_cons, ih]
    rfl)
theorem Tor.h_le {w : Nat} {T : List (List (Option Nat))} (A : Tor w T) : T.length ≤ 600 := Nat.le_trans (Nat.le_mul_of_pos_right _ A.wp) A.ar
theorem Tor.w_le {w : Nat} {T : List (List (Option Nat))} (A : Tor w T) : w ≤ 600 := Nat.le_trans (Nat.le_mul_of_pos_left _ (List.length_pos_iff.mpr A.hi)) A.ar
theorem tall_true (n : Nat) : (List.replicate n true).all id = true := by
  rw [List.all_eq_true]
  intro x hx
  rw [(List.mem_replicate.mp hx).2]
  rfl
theorem sum_ones (r : List (Option Nat)) : (List.map (fun x : Str => x.length) (r.map fun o => (⟨#[sgT o]⟩ : Str))).sum = r.length := by
  induction r with
  | nil => rfl
  | cons o r ih =>
    rw [List.map_cons, List.map_cons, List.sum_cons, ih, List.length_cons]
    show 1 + r.length = _
    omega
theorem sum_rows {w : Nat} : ∀ {T : List (List (Option Nat))}, (∀ r ∈ T, r.length = w) → (List.map (fun x : Str => x.length) (T.map rowT)).sum = T.length * w
  | [], _ => by simp
  | r :: T, h => by
    rw [List.map_cons, List.map_cons, List.sum_cons, sum_rows fun z hz => h z (List.mem_cons_of_mem _ hz), rowT_len, h r List.mem_cons_self, List.length_cons, Nat.succ_mul, Nat.add_comm]
theorem optN_none {o : Option Nat} (h : optN o = .none) : o = none := by
  cases o with
  | none => rfl
  | some x => cases h
theorem strAssoc (a b c : Str) : a ++ b ++ c = a ++ (b ++ c) := TL.ext_tl (by simp only [TL.tl_append, List.append_assoc])
theorem strNil (a : Str) : a ++ rowT [] = a := TL.ext_tl (by rw [TL.tl_append]; exact List.append_nil _)
theorem strNil' (a : Str) : a ++ Str.ofString "" = a := TL.ext_tl (by rw [TL.tl_append]; exact List.append_nil _)
theorem strNil0 (a : Str) : Str.ofString "" ++ a = a := TL.ext_tl (by rw [TL.tl_append]; rfl)
theorem str_len_app (a b : Str) : (a ++ b).length = a.length + b.length := by rw [TL.len_tl, TL.tl_append, List.length_append, ← TL.len_tl, ← TL.len_tl]
def torD (T : List (List (Option Nat))) : List (List PyData) := T.map fun r => r.map optN
theorem torD_len (T : List (List (Option Nat))) : (torD T).length = T.length := by unfold torD; rw [List.length_map]
theorem H2.app {S X : S3} {n : Nat} (h : H2 S n) : H2 (S ++ X) n := by
  have hl := h.lt
  obtain ⟨g, x, e, r⟩ := h
  exact ⟨g, x, by rw [List.getElem?_append_left hl]; exact e, r⟩
theorem H2To.app {S X S' : S3} {n : Nat} (hl : n < S.length) (h : H2To n (S ++ X) S') : ∃ S1, S' = S1 ++ X ∧ H2To n S S1 := by
  obtain ⟨g, x, rfl⟩ := h
  exact ⟨_, by rw [List.set_append_left _ _ hl], g, x, rfl⟩
theorem H2.of_app {S X : S3} {n : Nat} (hl : n < S.length) (h : H2 (S ++ X) n) : H2 S n := by
  obtain ⟨g, x, e, r⟩ := h
  rw [List.getElem?_append_left hl] at e
  exact ⟨g, x, e, r⟩
theorem tblS_H2 {S : S3} {M : List (List PyData)} {h n : Nat} (hd : H2 S n) : H2 (tblS S M h) n := by
  unfold tblS
  rw [List.append_assoc]
  exact hd.app
theorem tblS_H2To {S S' : S3} {M : List (List PyData)} {h n : Nat} (hl : n < S.length) (t : H2To n (tblS S M h) S') (hd : H2 S' n) : ∃ S1, S' = tblS S1 M h ∧ H2To n S S1 ∧ H2 S1 n := by
  unfold tblS at t
  rw [List.append_assoc] at t
  obtain ⟨S1, rfl, t1⟩ := t.app hl
  refine ⟨S1, ?_, t1, H2.of_app (by rw [t1.len]; exact hl) hd⟩
  unfold tblS
  rw [List.append_assoc, t1.len]
theorem Tor.put {w r c : Nat} {T : List (List (Option Nat))} {row : List (Option Nat)} (A : Tor w T) (hr : T[r]? = some row) : Tor w (T.set r (row.set c none)) where
  hi := fun z => A.hi (by
    have := congrArg List.length z
    rw [List.length_set] at this
    exact List.length_eq_zero_iff.mp this)
  wp := A.wp
  wd := fun q hq => by
    rcases List.mem_or_eq_of_mem_set hq with h | rfl
    · exact A.wd q h
    · rw [List.length_set]
      exact A.wd row (List.mem_of_getElem? hr)
  ar := by rw [List.length_set]; exact A.ar
  sg := fun q hq x hx => by
    rcases List.mem_or_eq_of_mem_set hq with h | rfl
    · exact A.sg q h x hx
    · rcases List.mem_or_eq_of_mem_set hx with h | h
      · exact A.sg row (List.mem_of_getElem? hr) x h
      · cases h
theorem torD_set (T : List (List (Option Nat))) (r c : Nat) (row : List (Option Nat)) : (torD T).set r ((row.map optN).set c .none) = torD (T.set r (row.set c none)) := by
  unfold torD
  rw [List.map_set, List.map_set]
  rfl
theorem torD_at {T : List (List (Option Nat))} {r : Nat} {row : List (Option Nat)} (h : T[r]? = some row) : (torD T)[r]? = some (row.map optN) := by
  unfold torD
  rw [List.getElem?_map, h]
  rfl
def nonT (T : List (List (Option Nat))) : List (List (Option Nat)) := T.map fun r => r.map fun _ => none
theorem nonT_len (T : List (List (Option Nat))) : (nonT T).length = T.length := by unfold nonT; rw [List.length_map]
theorem Tor.non {w : Nat} {T : List (List (Option Nat))} (A : Tor w T) : Tor w (nonT T) where
  hi := fun z => A.hi (by
    have := congrArg List.length z
    rw [nonT_len] at this
    exact List.length_eq_zero_iff.mp this)
  wp := A.wp
  wd := fun q hq => by
    obtain ⟨r, hr, rfl⟩ := List.mem_map.mp hq
    rw [List.length_map]
    exact A.wd r hr
  ar := by rw [nonT_len]; exact A.ar
  sg := fun q hq x hx => by
    obtain ⟨r, hr, rfl⟩ := List.mem_map.mp hq
    obtain ⟨o, _, e⟩ := List.mem_map.mp hx
    cases e
theorem nonT_one (T : List (List (Option Nat))) (r : List (Option Nat)) : MS (torD (nonT (T ++ [r]))) = MS (torD (nonT T)) ++ [some (O3.lst (r.map fun _ => PyData.none))] := by
  unfold MS torD nonT
  rw [List.map_append, List.map_append, List.map_append]
  congr 1
  show [some (O3.lst ((r.map fun _ => none).map optN))] = _
  rw [List.map_map]
  rfl

/-- floors: rows of signs, all rows as long -/
def flo (rows : List (List Int)) : PyData := .tuple (rows.map tupI)
structure Flo (M w : Nat) (rows : List (List Int)) : Prop where
  hi : 0 < rows.length
  wp : 0 < w
  wd : ∀ r ∈ rows, r.length = w
  ar : rows.length * w ≤ M
  sg : ∀ r ∈ rows, ∀ x ∈ r, 0 ≤ x ∧ x < 36
theorem Flo.w_le {M w : Nat} {rows : List (List Int)} (F : Flo M w rows) : w ≤ M := Nat.le_trans (Nat.le_mul_of_pos_left w F.hi) F.ar
theorem Flo.h_le {M w : Nat} {rows : List (List Int)} (F : Flo M w rows) : rows.length ≤ M := Nat.le_trans (Nat.le_mul_of_pos_right _ F.wp) F.ar
theorem Flo.mono {M M' w : Nat} {rows : List (List Int)} (F : Flo M w rows) (h : M ≤ M') : Flo M' w rows := ⟨F.hi, F.wp, F.wd, Nat.le_trans F.ar h, F.sg⟩
theorem Flo.row {M w : Nat} {rows : List (List Int)} (F : Flo M w rows) {i : Nat} (hi : i < rows.length) : rows[i].length = w := F.wd _ (List.getElem_mem hi)
theorem mem_rep3 {α : Type} {x : α} {xs : List α} {k : Int} (h : x ∈ rep3 xs k) : x ∈ xs := by
  unfold rep3 at h
  obtain ⟨l, h1, h2⟩ := List.mem_flatten.mp h
  rw [(List.mem_replicate.mp h1).2] at h2
  exact h2
theorem rep3_map {α β : Type} (f : α → β) (xs : List α) (k : Int) : rep3 (xs.map f) k = (rep3 xs k).map f := by
  unfold rep3
  rw [List.map_flatten, List.map_replicate]
theorem rep3_tupI (r : List Int) (k : Int) : PyData.tuple (rep3 (r.map PyData.int) k) = tupI (rep3 r k) := by
  unfold tupI
  rw [rep3_map]
theorem Flo.rep {M M' w d e : Nat} {rows : List (List Int)} (F : Flo M w rows) (hd : 0 < d) (he : 0 < e) (ha : rows.length * d * (w * e) ≤ M') : Flo M' (w * e) (rep3 (rows.map fun r => rep3 r (e : Int)) (d : Int)) where
  hi := by
    rw [rep3_len, List.length_map, Int.toNat_natCast]
    exact Nat.mul_pos F.hi hd
  wp := Nat.mul_pos F.wp he
  wd := fun r hr => by
    obtain ⟨q, hq, rfl⟩ := List.mem_map.mp (mem_rep3 hr)
    rw [rep3_len, F.wd q hq, Int.toNat_natCast]
  ar := by
    rw [rep3_len, List.length_map, Int.toNat_natCast]
    exact ha
  sg := fun r hr x hx => by
    obtain ⟨q, hq, rfl⟩ := List.mem_map.mp (mem_rep3 hr)
    exact F.sg q hq x (mem_rep3 hx)
theorem getD_at {α : Type} (xs : List α) (i : Nat) (d : α) (h : i < xs.length) : xs.getD i d = xs[i] := by
  rw [List.getD_eq_getElem?_getD, List.getElem?_eq_getElem h]
  rfl
def putF (rows : List (List Int)) (r c : Nat) (x : Int) : List (List Int) := rows.set r ((rows.getD r []).set c x)
theorem Flo.put {M w r c : Nat} {x : Int} {rows : List (List Int)} (F : Flo M w rows) (hr : r < rows.length) (hx : 0 ≤ x ∧ x < 36) : Flo M w (putF rows r c x) where
  hi := by unfold putF; rw [List.length_set]; exact F.hi
  wp := F.wp
  wd := fun q hq => by
    rcases List.mem_or_eq_of_mem_set hq with h | rfl
    · exact F.wd q h
    · rw [List.length_set, getD_at _ _ _ hr]
      exact F.row hr
  ar := by unfold putF; rw [List.length_set]; exact F.ar
  sg := fun q hq y hy => by
    rcases List.mem_or_eq_of_mem_set hq with h | rfl
    · exact F.sg q h y hy
    · rcases List.mem_or_eq_of_mem_set hy with h | rfl
      · rw [getD_at _ _ _ hr] at h
        exact F.sg _ (List.getElem_mem hr) y h
      · exact hx
theorem tup_put {α : Type} (xs : List α) (i : Nat) (x : α) (hi : i < xs.length) : xs.take i ++ [x] ++ xs.drop (i + 1) = xs.set i x := by
  rw [List.set_eq_take_append_cons_drop, if_pos hi, List.append_assoc]
  rfl
theorem sides_ok {most : Nat} (h : 25 ≤ most) : 0 < most / 2 ∧ 0 < most / 3 ∧ 0 < most / 25 ∧ 0 < most / 20 ∧ most / 2 * 2 ≤ most ∧ 3 * (most / 3) ≤ most ∧ most / 25 * 25 ≤ most ∧ most / 20 * 20 ≤ most := by omega
/-- shapes: cells of two numbers, rising -/
def lex2 : List Int → List Int → Prop
  | [a, b], [c, d] => a < c ∨ (a = c ∧ b < d)
  | _, _ => False
def shp (cs : List (List Int)) : PyData := .tuple (cs.map tupI)
structure Shp (M : Nat) (cs : List (List Int)) : Prop where
  hi : 0 < cs.length
  le : cs.length ≤ M
  cl : ∀ k ∈ cs, ∃ i j : Nat, k = [(i : Int), (j : Int)] ∧ i < 40 ∧ j < 40
  nd : cs.Nodup
  ord : cs.Pairwise lex2
  top : ∃ k ∈ cs, k.head? = some 0
  side : ∃ k ∈ cs, k[1]? = some 0
theorem minI_spec {ns : List Int} (h : ns ≠ []) : minI ns ∈ ns ∧ ∀ y ∈ ns, minI ns ≤ y := by
  cases ns with
  | nil => exact absurd rfl h
  | cons x xs =>
    obtain ⟨h1, h2, h3⟩ := minI_go xs x
    refine ⟨?_, fun y hy => ?_⟩
    · rcases h3 with h3 | h3
      · exact List.mem_cons.mpr (.inl h3)
      · exact List.mem_cons_of_mem _ h3
    · rcases List.mem_cons.mp hy with rfl | hy
      · exact h1
      · exact h2 y hy
def k0 (k : List Int) : Int := k.getD 0 0
def k1 (k : List Int) : Int := k.getD 1 0
theorem code2 (B x y : Int) : TS.code B [x, y] = x * B + y := by
  simp [TS.code, Int.pow_succ]
theorem lex_code {B a b c d : Int} (h : a * B + b ≤ c * B + d) (ne : ([a, b] : List Int) ≠ [c, d]) (hb : 0 ≤ b) (hd0 : 0 ≤ d) (hd : d < B) : a < c ∨ (a = c ∧ b < d) := by
  rcases Int.lt_trichotomy a c with h1 | h1 | h1
  · exact .inl h1
  · subst h1
    refine .inr ⟨rfl, ?_⟩
    have : b ≠ d := fun z => ne (by rw [z])
    omega
  · exfalso
    have hB : 0 ≤ B := by omega
    have h2 := Int.mul_le_mul_of_nonneg_right (show c + 1 ≤ a by omega) hB
    rw [Int.add_mul, Int.one_mul] at h2
    omega
theorem pw_lex {B : Int} : ∀ {L : List (List Int)}, (∀ k ∈ L, ∃ i j : Int, k = [i, j]) → (∀ k ∈ L, TS.Bd B k) → L.Nodup → L.Pairwise (fun q r => TS.code B q ≤ TS.code B r) → L.Pairwise lex2
  | [], _, _, _, _ => .nil
  | k :: L, h1, h2, nd, h => by
    obtain ⟨n1, n2⟩ := List.nodup_cons.mp nd
    obtain ⟨p1, p2⟩ := List.pairwise_cons.mp h
    refine .cons (fun r hr => ?_) (pw_lex (fun k hk => h1 k (List.mem_cons_of_mem _ hk)) (fun k hk => h2 k (List.mem_cons_of_mem _ hk)) n2 p2)
    obtain ⟨a, b, rfl⟩ := h1 k List.mem_cons_self
    obtain ⟨c, d, rfl⟩ := h1 r (List.mem_cons_of_mem _ hr)
    have := p1 _ hr
    rw [code2, code2] at this
    refine lex_code this (fun z => n1 (by rw [z]; exact hr)) ?_ (h2 _ (List.mem_cons_of_mem _ hr) d (by simp)).1 ?_
    · exact (h2 _ List.mem_cons_self b (by simp)).1
    · exact (h2 _ (List.mem_cons_of_mem _ hr) d (by simp)).2

/-- the sign of a floor at a row and a column, round as often as need be -/
def cellI (w : Nat) (rows : List (List Int)) (r c : Int) : Int := (rows.getD (r % (rows.length : Int)).toNat []).getD (c % (w : Int)).toNat 0
def winI (w : Nat) (rows : List (List Int)) (cs : List (List Int)) (r c : Int) : List Int := cs.map fun k => cellI w rows (r + k0 k) (c + k1 k)
theorem rep3_get {α : Type} (xs : List α) : ∀ (k n : Nat), n < xs.length * k → (rep3 xs (k : Int))[n]? = xs[n % xs.length]?
  | 0, n, h => by omega
  | k + 1, n, h => by
    have e : rep3 xs ((k + 1 : Nat) : Int) = xs ++ rep3 xs (k : Int) := by
      unfold rep3
      rw [Int.toNat_natCast, Int.toNat_natCast, List.replicate_succ, List.flatten_cons]
    rw [e]
    by_cases hn : n < xs.length
    · rw [List.getElem?_append_left hn, Nat.mod_eq_of_lt hn]
    · have hm : n % xs.length = (n - xs.length) % xs.length := Nat.mod_eq_sub_mod (by omega)
      rw [List.getElem?_append_right (by omega), rep3_get xs k (n - xs.length) (by rw [Nat.mul_succ] at h; omega), hm]
theorem Flo.cell {M w : Nat} {rows : List (List Int)} (F : Flo M w rows) (r c : Int) : ∃ q x, atI (rows.map tupI) (r % (rows.length : Int)) = some (tupI q) ∧ q.length = w ∧ atI (q.map PyData.int) (c % (w : Int)) = some (.int x) ∧ x = cellI w rows r c ∧ 0 ≤ x ∧ x < 36 := by
  have h0 := F.hi
  have w0 := F.wp
  have r0 := Int.emod_nonneg r (show (rows.length : Int) ≠ 0 by omega)
  have r1 := Int.emod_lt_of_pos r (show (0 : Int) < (rows.length : Int) by omega)
  have c0 := Int.emod_nonneg c (show (w : Int) ≠ 0 by omega)
  have c1 := Int.emod_lt_of_pos c (show (0 : Int) < (w : Int) by omega)
  obtain ⟨i, hi⟩ := Int.eq_ofNat_of_zero_le r0
  obtain ⟨j, hj⟩ := Int.eq_ofNat_of_zero_le c0
  have hil : i < rows.length := by omega
  have hql := F.row hil
  have hjl : j < rows[i].length := by omega
  refine ⟨rows[i], rows[i][j], ?_, hql, ?_, ?_, F.sg _ (List.getElem_mem hil) _ (List.getElem_mem hjl)⟩
  · rw [hi]
    exact atI_nat (by rw [List.getElem?_map, List.getElem?_eq_getElem hil]; rfl)
  · rw [hj]
    exact atI_nat (by rw [List.getElem?_map, List.getElem?_eq_getElem hjl]; rfl)
  · unfold cellI
    rw [hi, hj, Int.toNat_natCast, Int.toNat_natCast, getD_at _ _ _ hil, getD_at _ _ _ hjl]
theorem cellI_nat {M w : Nat} {rows : List (List Int)} (F : Flo M w rows) (r c : Nat) {q : List Int} (hq : rows[r % rows.length]? = some q) : q[c % w]? = some (cellI w rows r c) := by
  have h0 := F.hi
  have w0 := F.wp
  have hil := Nat.mod_lt r h0
  have hjl := Nat.mod_lt c w0
  have e : q = rows[r % rows.length] := by
    rw [List.getElem?_eq_getElem hil] at hq
    exact (Option.some.inj hq).symm
  subst e
  have hql := F.row hil
  unfold cellI
  have e1 : ((r : Int) % (rows.length : Int)).toNat = r % rows.length := by omega
  have e2 : ((c : Int) % (w : Int)).toNat = c % w := by omega
  rw [e1, e2, getD_at _ _ _ hil, getD_at _ _ _ (by omega), List.getElem?_eq_getElem (by omega)]
def copies (w : Nat) (rows : List (List Int)) : List (List Int) := rep3 (rows.map fun r => rep3 r ((2 + 39 / w : Nat) : Int)) ((2 + 39 / rows.length : Nat) : Int)
theorem far_enough {h r i : Nat} (hh : 0 < h) (hr : r < h) (hi : i < 40) : r + i < h * (2 + 39 / h) := by
  have := Nat.div_add_mod 39 h
  have := Nat.mod_lt 39 hh
  rw [Nat.mul_add]
  omega
theorem copies_get {M w : Nat} {rows : List (List Int)} (F : Flo M w rows) {r c i j : Nat} (hr : r < rows.length) (hc : c < w) (hi : i < 40) (hj : j < 40) : ∃ q, (copies w rows)[r + i]? = some q ∧ q[c + j]? = some (cellI w rows ((r : Int) + (i : Int)) ((c : Int) + (j : Int))) := by
  have f1 := far_enough F.hi hr hi
  have f2 := far_enough F.wp hc hj
  have hm : (r + i) % rows.length < rows.length := Nat.mod_lt _ F.hi
  refine ⟨rep3 rows[(r + i) % rows.length] ((2 + 39 / w : Nat) : Int), ?_, ?_⟩
  · unfold copies
    rw [rep3_get _ _ _ (by rw [List.length_map]; exact f1), List.length_map, List.getElem?_map, List.getElem?_eq_getElem hm]
    rfl
  · have hl := F.row hm
    rw [rep3_get _ _ _ (by rw [hl]; exact f2), hl]
    exact cellI_nat F (r + i) (c + j) (List.getElem?_eq_getElem hm)

/-- the places of a floor, row by row -/
def pl (p : Nat × Nat) : PyData := .tuple [.int (p.1 : Nat), .int (p.2 : Nat)]
theorem pl_tupI (p : Nat × Nat) : pl p = tupI (plI p) := rfl
def places (h w : Nat) : List (Nat × Nat) := (List.range h).flatMap fun r => (List.range w).map fun c => (r, c)
theorem places_succ (h w : Nat) : places (h + 1) w = places h w ++ (List.range w).map fun c => (h, c) := by
  unfold places
  rw [List.range_succ, List.flatMap_append]
  simp
theorem places_mem {h w : Nat} {p : Nat × Nat} : p ∈ places h w ↔ p.1 < h ∧ p.2 < w := by
  unfold places
  rw [List.mem_flatMap]
  constructor
  · rintro ⟨r, hr, hp⟩
    obtain ⟨c, hc, rfl⟩ := List.mem_map.mp hp
    exact ⟨List.mem_range.mp hr, List.mem_range.mp hc⟩
  · rintro ⟨h1, h2⟩
    exact ⟨p.1, List.mem_range.mpr h1, List.mem_map.mpr ⟨p.2, List.mem_range.mpr h2, rfl⟩⟩
theorem places_len (w : Nat) : ∀ h : Nat, (places h w).length = h * w
  | 0 => by simp [places]
  | h + 1 => by
    rw [places_succ, List.length_append, places_len w h, List.length_map, List.length_range, Nat.succ_mul]
theorem pw_append_iff {α : Type} {R : α → α → Prop} {l l' : List α} (h : l.Pairwise R) (h' : l'.Pairwise R) (h2 : ∀ a ∈ l, ∀ b ∈ l', R a b) : (l ++ l').Pairwise R := List.pairwise_append.mpr ⟨h, h', h2⟩
theorem lexI_two1 {a b c d : Nat} (h : a < c) : lexI [(a : Int), (b : Int)] [(c : Int), (d : Int)] = true := by
  unfold lexI
  rw [if_neg (by omega)]
  exact decide_eq_true (by omega)
theorem lexI_two2 {a b d : Nat} (h : b < d) : lexI [(a : Int), (b : Int)] [(a : Int), (d : Int)] = true := by
  unfold lexI
  rw [if_pos rfl]
  unfold lexI
  rw [if_neg (by omega)]
  exact decide_eq_true (by omega)
theorem places_ord (w : Nat) : ∀ h : Nat, (places h w).Pairwise fun p q => lexI (plI p) (plI q) = true
  | 0 => by simp [places]
  | h + 1 => by
    rw [places_succ]
    refine pw_append_iff (places_ord w h) ?_ ?_
    · rw [List.pairwise_map]
      refine (List.pairwise_lt_range (n := w)).imp fun {a b} hab => ?_
      show lexI [(h : Int), (a : Int)] [(h : Int), (b : Int)] = true
      exact lexI_two2 hab
    · intro p hp q hq
      obtain ⟨c, hc, rfl⟩ := List.mem_map.mp hq
      have := (places_mem.mp hp).1
      exact lexI_two1 this
def opt : Option Int → PyData
  | none => .none
  | some x => .int x
def sen (os : List (Option Int)) : PyData := .tuple (os.map opt)
def fitF (w : Nat) (rows : List (List Int)) (r c : Int) (p : List Int × Option Int) : Bool := match p.2 with
  | none => true
  | some x => decide (cellI w rows (r + k0 p.1) (c + k1 p.1) = x)
def fitsB (w : Nat) (rows cs : List (List Int)) (os : List (Option Int)) (r c : Int) : Bool := (cs.zip os).all (fitF w rows r c)
theorem zip3_ln (xs ys : List PyData) : (zip3 xs ys).length = min xs.length ys.length := by
  unfold zip3
  rw [List.length_map, List.length_zip]
theorem all_take_succ {α : Type} {f : α → Bool} {l : List α} {i : Nat} {x : α} (h : l[i]? = some x) : (l.take (i + 1)).all f = ((l.take i).all f && f x) := by
  rw [pt_take_one h, List.all_append]
  simp
theorem all_false_of {α : Type} {f : α → Bool} {l : List α} {i : Nat} {x : α} (h : l[i]? = some x) (hf : f x = false) : l.all f = false := by
  rw [List.all_eq_false]
  exact ⟨x, List.mem_of_getElem? h, by rw [hf]; simp⟩
theorem eqv_ints1 (a b : Int) : PyData.eqv (.int a) (.int b) = decide (a = b) := by
  rw [eqv_int]
  rfl

def stripW (k : Int) (w : List Int) : List Int := (w.reverse.dropWhile fun d => decide (d = k - 1)).reverse
def incW (w : List Int) : List Int := w.dropLast ++ [w.getLast?.getD 0 + 1]
def cycW (n : Nat) (w : List Int) : List Int := (List.range n).map fun at' => w.getD (at' % w.length) 0
def duv (k : Int) (n : Nat) : Nat → List Int → List (List Int) → Option (List (List Int))
  | _, [], acc => some acc.reverse
  | 0, _ :: _, _ => none
  | m + 1, x :: xs, acc =>
    let w := incW (x :: xs)
    duv k n m (stripW k (cycW n w)) (if n % w.length = 0 then w :: acc else acc)
def wordsL (k : Nat) : Nat → List (List Int)
  | 0 => [[]]
  | l + 1 => (wordsL k l).flatMap fun w => (List.range k).map fun (d : Nat) => w ++ [((d : Nat) : Int)]
def lynB (w : List Int) : Bool := (List.range (w.length - 1)).all fun i => lexI w (w.drop (i + 1) ++ w.take (i + 1))
def leastB (k n : Nat) : List (List Int) := ((List.range n).filter fun i => decide (n % (i + 1) = 0)).flatMap fun i => (wordsL k (i + 1)).filter lynB
def insL (x : List Int) : List (List Int) → List (List Int)
  | [] => [x]
  | y :: ys => if leI x y then x :: y :: ys else y :: insL x ys
def isortL : List (List Int) → List (List Int)
  | [] => []
  | x :: xs => insL x (isortL xs)
def chkW (k n : Nat) : Bool := duv (k : Int) n 700 [-1] [] == some (isortL (leastB k n))
theorem insL_perm (x : List Int) : ∀ ys : List (List Int), (insL x ys).Perm (x :: ys)
  | [] => List.Perm.refl _
  | y :: ys => by
    unfold insL
    split
    · exact List.Perm.refl _
    · exact ((insL_perm x ys).cons y).trans (List.Perm.swap x y ys)
theorem isortL_perm : ∀ l : List (List Int), (isortL l).Perm l
  | [] => List.Perm.refl _
  | x :: xs => (insL_perm x (isortL xs)).trans ((isortL_perm xs).cons x)
theorem insL_ord (x : List Int) : ∀ {ys : List (List Int)}, ys.Pairwise (fun a b => leI a b = true) → (insL x ys).Pairwise (fun a b => leI a b = true)
  | [], _ => by
    unfold insL
    exact List.pairwise_singleton _ _
  | y :: ys, h => by
    obtain ⟨h1, h2⟩ := List.pairwise_cons.mp h
    unfold insL
    by_cases c : leI x y = true
    · rw [if_pos c]
      refine List.pairwise_cons.mpr ⟨fun z hz => ?_, h⟩
      rcases List.mem_cons.mp hz with rfl | hz
      · exact c
      · exact leI_trans x y z c (h1 z hz)
    · rw [if_neg c]
      refine List.pairwise_cons.mpr ⟨fun z hz => ?_, insL_ord x h2⟩
      have := (insL_perm x ys).mem_iff.mp hz
      rcases List.mem_cons.mp this with rfl | hz
      · have t := leI_total z y
        rw [Bool.or_eq_true] at t
        exact t.resolve_left c
      · exact h1 z hz
theorem isortL_ord : ∀ l : List (List Int), (isortL l).Pairwise (fun a b => leI a b = true)
  | [] => List.Pairwise.nil
  | x :: xs => insL_ord x (isortL_ord xs)
theorem sortD_isort (l : List (List Int)) : sortD (l.map tupI) = (isortL l).map tupI := by
  have e : (l.map tupI).mergeSort (PySem.W.dataLe false id) = (l.mergeSort leI).map tupI := by
    refine (List.map_mergeSort (f := tupI) (r := leI) (s := PySem.W.dataLe false id) (l := l) fun a _ b _ => ?_).symm
    show leI a b = _
    rw [PySem.W.dataLe_eq]
    show leI a b = !PySem.W.dataLt (tupI b) (tupI a)
    rw [dataLt_tupI]
    rfl
  unfold sortD
  rw [e]
  congr 1
  exact eq_sorted (R := fun a b => leI a b = true) (fun a b => leI_anti) ((List.mergeSort_perm l leI).trans (isortL_perm l).symm) (List.pairwise_mergeSort leI_trans leI_total l) (isortL_ord l)
theorem ixN_neg1 {n : Nat} (h : 0 < n) : ixN n (-1) = some (n - 1) := by
  unfold ixN
  rw [if_neg (by decide), if_pos (by omega)]
  congr 1
  omega
theorem set_last {α : Type} {w : List α} (h : w ≠ []) (y : α) : w.set (w.length - 1) y = w.dropLast ++ [y] := by
  have e := List.dropLast_concat_getLast h
  have hl : 0 < w.length := List.length_pos_iff.mpr h
  conv => lhs; rw [← e]
  rw [List.set_append_right _ _ (by rw [List.length_append, List.length_dropLast, List.length_singleton]; omega)]
  congr 1
  rw [List.length_append, List.length_dropLast, List.length_singleton]
  have : w.length - 1 + 1 - 1 - (w.length - 1) = 0 := by omega
  rw [this]
  rfl
theorem strip_snoc (k : Int) (w : List Int) : stripW k (w ++ [k - 1]) = stripW k w := by
  unfold stripW
  rw [List.reverse_append]
  simp
theorem strip_stop {k : Int} {w : List Int} (h : ∀ x, w.getLast? = some x → x ≠ k - 1) : stripW k w = w := by
  unfold stripW
  cases hr : w.reverse with
  | nil =>
    have : w = [] := List.reverse_eq_nil_iff.mp hr
    subst this
    rfl
  | cons x xs =>
    have e : w = xs.reverse ++ [x] := by
      have := congrArg List.reverse hr
      rw [List.reverse_reverse, List.reverse_cons] at this
      exact this
    have hx : x ≠ k - 1 := h x (by rw [e]; simp)
    rw [List.dropWhile_cons_of_neg (by simpa using hx), ← hr, List.reverse_reverse]
theorem incW_len {w : List Int} (h : w ≠ []) : (incW w).length = w.length := by
  have hl : 0 < w.length := List.length_pos_iff.mpr h
  unfold incW
  rw [List.length_append, List.length_dropLast, List.length_singleton]
  omega
theorem strip_len (k : Int) (w : List Int) : (stripW k w).length ≤ w.length := by
  unfold stripW
  rw [List.length_reverse]
  have := (List.dropWhile_sublist (fun d => decide (d = k - 1)) (l := w.reverse)).length_le
  rw [List.length_reverse] at this
  exact this
theorem duv_nil (k : Int) (n m : Nat) (acc : List (List Int)) : duv k n m [] acc = some acc.reverse := by
  cases m <;> rfl
theorem duv_some {k : Int} {n m : Nat} {w : List Int} {acc res : List (List Int)} (h : duv k n m w acc = some res) (hw : w ≠ []) : ∃ m', m = m' + 1 ∧ duv k n m' (stripW k (cycW n (incW w))) (if n % (incW w).length = 0 then incW w :: acc else acc) = some res := by
  cases w with
  | nil => exact absurd rfl hw
  | cons x xs =>
    cases m with
    | zero => cases h
    | succ m => exact ⟨m, rfl, h⟩
theorem incW_set {w : List Int} (h : w ≠ []) (x : Int) (hx : w.getLast? = some x) : (w.map PyData.int).set (w.length - 1) (.int (x + 1)) = (incW w).map PyData.int := by
  rw [← List.map_set, set_last h, incW, hx]
  rfl
theorem map_last (w : List Int) : atI (w.map PyData.int) (-1) = (w.getLast?).map PyData.int := by
  rw [atI_neg1, List.getLast?_map]
theorem wordsL_len (k : Nat) : ∀ l : Nat, (wordsL k l).length = k ^ l
  | 0 => rfl
  | l + 1 => by
    unfold wordsL
    rw [List.length_flatMap, Nat.pow_succ, ← wordsL_len k l]
    generalize wordsL k l = L
    induction L with
    | nil => simp
    | cons w L ih =>
      rw [List.map_cons, List.sum_cons, ih, List.length_map, List.length_range, List.length_cons, Nat.add_mul, Nat.one_mul, Nat.add_comm]
def extW (k : Nat) (w : List Int) : List (List Int) := (List.range k).map fun (d : Nat) => w ++ [((d : Nat) : Int)]
theorem wordsL_succ (k l : Nat) : wordsL k (l + 1) = (wordsL k l).flatMap (extW k) := rfl
theorem wordsL_long (k : Nat) : ∀ (l : Nat) (w : List Int), w ∈ wordsL k l → w.length = l
  | 0, w, h => by
    unfold wordsL at h
    rw [List.mem_singleton.mp h]
    rfl
  | l + 1, w, h => by
    rw [wordsL_succ, List.mem_flatMap] at h
    obtain ⟨v, hv, hw⟩ := h
    unfold extW at hw
    obtain ⟨d, _, rfl⟩ := List.mem_map.mp hw
    rw [List.length_append, wordsL_long k l v hv]
    rfl
theorem flatMap_len_le {α β : Type} (f : α → List β) (c : Nat) (h : ∀ a, (f a).length = c) : ∀ l : List α, (l.flatMap f).length = l.length * c
  | [] => by simp
  | a :: l => by
    rw [List.flatMap_cons, List.length_append, h a, flatMap_len_le f c h l, List.length_cons, Nat.add_mul, Nat.one_mul, Nat.add_comm]
theorem flatMap_take {α β : Type} (f : α → List β) {l : List α} {i : Nat} {a : α} (h : l[i]? = some a) : (l.take (i + 1)).flatMap f = (l.take i).flatMap f ++ f a := by
  rw [take_one h, List.flatMap_append]
  simp
def HasL (n : Nat) (s : S3) (d : D) (ws : List (List Int)) : Prop := d = .p (.list (ws.map tupI)) ∨ ∃ m, d = .loc m ∧ n ≤ m ∧ s[m]? = some (some (.lst (ws.map tupI)))
theorem take_set_ge' {α : Type} (s : List α) (n : Nat) (o : α) : (s.set n o).take n = s.take n := by
  rw [List.take_set]
  exact List.set_eq_of_length_le (by rw [List.length_take]; omega)
theorem flatMap_len_bd {α β : Type} (f : α → List β) (c : Nat) : ∀ l : List α, (∀ a ∈ l, (f a).length ≤ c) → (l.flatMap f).length ≤ l.length * c
  | [], _ => by simp
  | a :: l, h => by
    rw [List.flatMap_cons, List.length_append, List.length_cons, Nat.add_mul, Nat.one_mul]
    have := h a List.mem_cons_self
    have := flatMap_len_bd f c l fun b hb => h b (List.mem_cons_of_mem _ hb)
    omega
theorem ltOk_rows (a b : List Int) : LtOk (tupI a) (tupI b) := by
  refine ⟨?_, (by unfold tupI; intro z; cases z), depth_rows [a] _ List.mem_cons_self⟩
  have go : ∀ (a b : List Int), PySem.W.alikeAll (a.map PyData.int) (b.map PyData.int) = true := by
    intro a
    induction a with
    | nil => intro b; simp [PySem.W.alikeAll]
    | cons x xs ih =>
      intro b
      cases b with
      | nil => simp [PySem.W.alikeAll]
      | cons y ys =>
        rw [List.map_cons, List.map_cons, PySem.W.alikeAll, ih ys]
        rfl
  unfold tupI
  rw [PySem.W.alike]
  exact go a b
def prN (p : Nat × Nat) : PyData := .tuple [.int (p.1 : Nat), .int (p.2 : Nat)]
def PairOk (x : PyData) : Prop := ∃ k m : Nat, x = .tuple [.int (k : Nat), .int (m : Nat)] ∧ ((k = 0 ∧ m = 0) ∨ (0 < k ∧ k ≤ 600 ∧ 0 < m ∧ m ≤ 40 ∧ k ^ m ≤ 600 ∧ chkW k m = true))
theorem pairs_ok {l : List (Nat × Nat)} (h1 : l.all (fun p => decide (0 < p.1 ∧ p.1 ≤ 600 ∧ 0 < p.2 ∧ p.2 ≤ 40 ∧ p.1 ^ p.2 ≤ 600)) = true) (h2 : l.all (fun p => chkW p.1 p.2) = true) {x : PyData} (hx : x ∈ l.map prN) : PairOk x := by
  obtain ⟨p, hp, rfl⟩ := List.mem_map.mp hx
  have a := of_decide_eq_true (List.all_eq_true.mp h1 p hp)
  have b := List.all_eq_true.mp h2 p hp
  exact ⟨p.1, p.2, rfl, .inr ⟨a.1, a.2.1, a.2.2.1, a.2.2.2.1, a.2.2.2.2, b⟩⟩
theorem shows_rows : ∀ l : List (List Int), PyData.canLayAll0 (l.map tupI) = true ∧ PyData.depthAll (l.map tupI) ≤ 1
  | [] => by
    rw [List.map_nil]
    unfold PyData.canLayAll0 PyData.depthAll
    exact ⟨rfl, by decide⟩
  | p :: l => by
    obtain ⟨h1, h2⟩ := shows_rows l
    rw [List.map_cons]
    unfold PyData.canLayAll0 PyData.depthAll
    rw [h1]
    refine ⟨?_, Nat.max_le.mpr ⟨?_, h2⟩⟩
    · unfold tupI PyData.canLay0
      rw [canLayAll0_ints]
      rfl
    · unfold tupI PyData.depth
      rw [depthAll_ints]
      decide
theorem shaped_rows (l : List (List Int)) : SeqAt.shaped (.tuple (l.map tupI)) = true := by
  obtain ⟨h1, h2⟩ := shows_rows l
  unfold SeqAt.shaped PyData.canLay0 PyData.depth
  rw [h1, decide_eq_true (by omega)]
  rfl
theorem chk_duv {k n : Nat} (h : chkW k n = true) : duv (k : Int) n 700 [-1] [] = some (isortL (leastB k n)) := eq_of_beq h

theorem sortD_tups (l : List (List Int)) : sortD (l.map tupI) = (l.mergeSort leI).map tupI := by
  unfold sortD
  refine (List.map_mergeSort (f := tupI) (r := leI) (s := PySem.W.dataLe false id) (l := l) fun a _ b _ => ?_).symm
  show leI a b = _
  rw [PySem.W.dataLe_eq]
  show leI a b = !PySem.W.dataLt (tupI b) (tupI a)
  rw [dataLt_tupI]
  rfl
theorem alike_any (l : List (List Int)) : PySem.W.AllAlike (l.map tupI) := by
  have go : ∀ (xs ys : List Int), PySem.W.alikeAll (xs.map PyData.int) (ys.map PyData.int) = true := fun xs => by
    induction xs with
    | nil => intro ys; simp [PySem.W.alikeAll]
    | cons x xs ih =>
      intro ys
      cases ys with
      | nil => simp [PySem.W.alikeAll]
      | cons y ys =>
        rw [List.map_cons, List.map_cons, PySem.W.alikeAll, ih ys]
        rfl
  intro d hd d' hd'
  obtain ⟨a, _, rfl⟩ := List.mem_map.mp hd
  obtain ⟨b, _, rfl⟩ := List.mem_map.mp hd'
  unfold tupI
  rw [PySem.W.alike]
  exact go a b
/-! ### the cells at the rests of the first numbers -/
theorem eqvAll_rows : ∀ a b : List (List Int), PyData.eqvAll (a.map tupI) (b.map tupI) = decide (a = b)
  | [], [] => by simp [PyData.eqvAll]
  | [], _ :: _ => by simp [PyData.eqvAll]
  | _ :: _, [] => by simp [PyData.eqvAll]
  | a :: as, b :: bs => by
    rw [List.map_cons, List.map_cons, PyData.eqvAll, eqvAll_rows as bs]
    have e : PyData.eqv (tupI a) (tupI b) = decide (a = b) := eqv_tints a b
    rw [e]
    by_cases h : a = b <;> by_cases h' : as = bs <;> simp [h, h']
theorem eqv_lrows (a b : List (List Int)) : PyData.eqv (.list (a.map tupI)) (.list (b.map tupI)) = decide (a = b) := by
  simp only [PyData.eqv]
  exact eqvAll_rows a b
theorem eqv_rows (a b : List (List Int)) : PyData.eqv (.tuple (a.map tupI)) (.tuple (b.map tupI)) = decide (a = b) := by
  simp only [PyData.eqv]
  exact eqvAll_rows a b
theorem canLay_rows : ∀ l : List (List Int), PyData.canLayAll0 (l.map tupI) = true ∧ PyData.depthAll (l.map tupI) ≤ 1
  | [] => by rw [List.map_nil]; unfold PyData.canLayAll0 PyData.depthAll; exact ⟨rfl, Nat.zero_le _⟩
  | r :: l => by
    obtain ⟨h1, h2⟩ := canLay_rows l
    rw [List.map_cons]
    unfold PyData.canLayAll0 PyData.depthAll
    have e1 : (tupI r).canLay0 = true := by
      unfold tupI PyData.canLay0
      exact canLayAll0_ints r
    have e2 : (tupI r).depth = 1 := by
      unfold tupI PyData.depth
      rw [depthAll_ints]
    rw [e1, h1, e2]
    exact ⟨rfl, by omega⟩
/-! ### grids of signs, as texts -/
def gT (r : List Nat) : Str := ⟨r.toArray⟩
def gridT (G : List (List Nat)) : Str := Txt.join slashS (G.map gT)
structure Grd (w : Nat) (G : List (List Nat)) : Prop where
  hi : G ≠ []
  wp : 0 < w
  wd : ∀ r ∈ G, r.length = w
  ar : G.length * w ≤ 1600
  sl : ∀ r ∈ G, 47 ∉ r
theorem tl_gT (r : List Nat) : TL.tl (gT r) = r := rfl
theorem gT_len (r : List Nat) : (gT r).length = r.length := by rw [TL.len_tl, tl_gT]
theorem gT_inj {a b : List Nat} (h : gT a = gT b) : a = b := by
  have := congrArg TL.tl h
  exact this
theorem tl_gridT (G : List (List Nat)) : TL.tl (gridT G) = TL.joinL [47] G := by
  unfold gridT
  rw [TL.join_eq, TL.tl_join, List.map_map, slashS_tl]
  congr 1
  exact List.map_id G
theorem split_gridT {w : Nat} {G : List (List Nat)} (A : Grd w G) : Txt.split (gridT G) slashS = G.map gT := by
  unfold gridT
  refine TL.split_join (s := 47) (S := []) slashS_tl (by decide +kernel) (by simpa using A.hi) fun p hp => ?_
  obtain ⟨r, hr, rfl⟩ := List.mem_map.mp hp
  rw [tl_gT]
  exact A.sl r hr
theorem gridT_len {G : List (List Nat)} {w : Nat} (h : ∀ r ∈ G, r.length = w) : (gridT G).length ≤ G.length * (w + 1) := by
  rw [TL.len_tl, tl_gridT]
  exact joinL_len [47] w G fun p hp => by rw [h p hp]; exact Nat.le_refl _
theorem Grd.h_le {w : Nat} {G : List (List Nat)} (A : Grd w G) : G.length ≤ 1600 := Nat.le_trans (Nat.le_mul_of_pos_right _ A.wp) A.ar
theorem Grd.w_le {w : Nat} {G : List (List Nat)} (A : Grd w G) : w ≤ 1600 := Nat.le_trans (Nat.le_mul_of_pos_left _ (List.length_pos_iff.mpr A.hi)) A.ar
theorem Grd.t_le {w : Nat} {G : List (List Nat)} (A : Grd w G) : (gridT G).length ≤ 1600 * 1601 := Nat.le_trans (gridT_len A.wd) (Nat.mul_le_mul A.h_le (by have := A.w_le; omega))
theorem floorT_grid (T : List (List (Option Nat))) : floorT T = gridT (T.map fun r => r.map sgT) := by
  unfold floorT gridT
  rw [List.map_map]
  rfl
theorem Tor.grd {w : Nat} {T : List (List (Option Nat))} (A : Tor w T) : Grd w (T.map fun r => r.map sgT) where
  hi := by simpa using A.hi
  wp := A.wp
  wd := fun r hr => by
    obtain ⟨z, hz, rfl⟩ := List.mem_map.mp hr
    rw [List.length_map, A.wd z hz]
  ar := by rw [List.length_map]; exact Nat.le_trans A.ar (by decide)
  sl := fun r hr hm => by
    obtain ⟨z, hz, rfl⟩ := List.mem_map.mp hr
    obtain ⟨o, ho, e⟩ := List.mem_map.mp hm
    cases o with
    | none => cases e
    | some x => exact (sig_free x (A.sg z hz x ho)).1 e
/-! ### pictures -/
abbrev PicL := List (List (Option (Option Nat)))
def pcT : Option (Option Nat) → Nat
  | none => 46
  | some o => sgT o
def hcT : Option (Option Nat) → Nat
  | none => 46
  | some _ => 35
def picG (P : PicL) : List (List Nat) := P.map fun r => r.map pcT
def hashG (P : PicL) : List (List Nat) := P.map fun r => r.map hcT
structure Pic (w : Nat) (P : PicL) : Prop where
  hi : P ≠ []
  wp : 0 < w
  wd : ∀ r ∈ P, r.length = w
  h40 : P.length ≤ 40
  w40 : w ≤ 40
  sg : ∀ r ∈ P, ∀ x, some (some x) ∈ r → x < 36
theorem Pic.ar {w : Nat} {P : PicL} (A : Pic w P) : P.length * w ≤ 1600 := Nat.mul_le_mul A.h40 A.w40
theorem pcT_free {o : Option (Option Nat)} (h : ∀ x, o = some (some x) → x < 36) : pcT o ≠ 47 := by
  match o, h with
  | none, _ => decide
  | some none, _ => decide
  | some (some x), h => exact (sig_free x (h x rfl)).1
theorem Pic.grd {w : Nat} {P : PicL} (A : Pic w P) : Grd w (picG P) where
  hi := by unfold picG; simpa using A.hi
  wp := A.wp
  wd := fun r hr => by
    obtain ⟨z, hz, rfl⟩ := List.mem_map.mp hr
    rw [List.length_map, A.wd z hz]
  ar := by unfold picG; rw [List.length_map]; exact A.ar
  sl := fun r hr hm => by
    obtain ⟨z, hz, rfl⟩ := List.mem_map.mp hr
    obtain ⟨o, ho, e⟩ := List.mem_map.mp hm
    exact pcT_free (o := o) (fun x ex => A.sg z hz x (ex ▸ ho)) e
theorem Pic.hash {w : Nat} {P : PicL} (A : Pic w P) : Grd w (hashG P) where
  hi := by unfold hashG; simpa using A.hi
  wp := A.wp
  wd := fun r hr => by
    obtain ⟨z, hz, rfl⟩ := List.mem_map.mp hr
    rw [List.length_map, A.wd z hz]
  ar := by unfold hashG; rw [List.length_map]; exact A.ar
  sl := fun r hr hm => by
    obtain ⟨z, hz, rfl⟩ := List.mem_map.mp hr
    obtain ⟨o, ho, e⟩ := List.mem_map.mp hm
    cases o <;> cases e
/-- a row's cells and what they show -/
def rowC (i : Nat) (r : List (Option (Option Nat))) (m : Nat) : List ((Nat × Nat) × Option Nat) := (List.range m).filterMap fun j => (r.getD j none).map fun o => ((i, j), o)
theorem rowC_non {i : Nat} {r : List (Option (Option Nat))} {m : Nat} (h : r[m]? = some none) : rowC i r (m + 1) = rowC i r m := by
  unfold rowC
  rw [List.range_succ, List.filterMap_append]
  simp [h]
theorem rowC_som {i : Nat} {r : List (Option (Option Nat))} {m : Nat} {o : Option Nat} (h : r[m]? = some (some o)) : rowC i r (m + 1) = rowC i r m ++ [((i, m), o)] := by
  unfold rowC
  rw [List.range_succ, List.filterMap_append]
  simp [h]
def allC (P : PicL) (m : Nat) : List ((Nat × Nat) × Option Nat) := (List.range m).flatMap fun i => rowC i (P.getD i []) (P.getD i []).length
theorem allC_succ {P : PicL} {m : Nat} {r : List (Option (Option Nat))} (h : P[m]? = some r) : allC P (m + 1) = allC P m ++ rowC m r r.length := by
  unfold allC
  rw [List.range_succ, List.flatMap_append]
  simp [h]
theorem rowC_le (i : Nat) (r : List (Option (Option Nat))) (m : Nat) : (rowC i r m).length ≤ m := by
  unfold rowC
  exact Nat.le_trans (List.length_filterMap_le _ _) (by rw [List.length_range]; exact Nat.le_refl _)
theorem allC_le {w : Nat} {P : PicL} (A : Pic w P) : ∀ m, m ≤ P.length → (allC P m).length ≤ m * w
  | 0, _ => by simp [allC]
  | m + 1, h => by
    have e : P[m]? = some P[m] := List.getElem?_eq_getElem (by omega)
    rw [allC_succ e, List.length_append, Nat.succ_mul]
    have h1 := allC_le A m (by omega)
    have h2 := rowC_le m P[m] P[m].length
    rw [A.wd _ (List.getElem_mem (by omega))] at h2 ⊢
    omega
theorem fm_congr {α β : Type} {f g : α → Option β} : ∀ {l : List α}, (∀ x ∈ l, f x = g x) → l.filterMap f = l.filterMap g
  | [], _ => rfl
  | x :: l, h => by
    rw [List.filterMap_cons, List.filterMap_cons, h x List.mem_cons_self, fm_congr fun y hy => h y (List.mem_cons_of_mem _ hy)]
/-! ### cells in order -/
def lt2 (a b : Nat × Nat) : Prop := a.1 < b.1 ∨ (a.1 = b.1 ∧ a.2 < b.2)
theorem lt2_ne {a b : Nat × Nat} (h : lt2 a b) : a ≠ b := fun e => by
  subst e
  rcases h with h | ⟨_, h⟩ <;> omega
theorem lt2_tr {a b c : Nat × Nat} (h : lt2 a b) (h' : lt2 b c) : lt2 a c := by
  unfold lt2 at *
  omega
theorem look_skip {k : Nat × Nat} : ∀ {L : List ((Nat × Nat) × Option Nat)}, (∀ x ∈ L, x.1 ≠ k) → L.lookup k = none
  | [], _ => rfl
  | (q, o) :: L, h => by
    rw [List.lookup_cons, beq_eq_false_iff_ne.mpr (fun e => h (q, o) List.mem_cons_self e.symm)]
    exact look_skip fun x hx => h x (List.mem_cons_of_mem _ hx)
/-- what is looked up at all places in order is the table itself -/
theorem look_all : ∀ {U : List (Nat × Nat)} {L : List ((Nat × Nat) × Option Nat)}, U.Pairwise lt2 → (L.map (·.1)).Pairwise lt2 → (∀ x ∈ L, x.1 ∈ U) → (U.filterMap fun p => (L.lookup p).map fun o => (p, o)) = L
  | [], L, _, _, h => by
    cases L with
    | nil => rfl
    | cons x L => exact absurd (h x List.mem_cons_self) (by simp)
  | u :: U, [], hU, hL, h => by simp
  | u :: U, (k, o) :: L, hU, hL, h => by
    rw [List.map_cons, List.pairwise_cons] at hL
    rw [List.pairwise_cons] at hU
    have hk := h (k, o) List.mem_cons_self
    have gtk : ∀ x ∈ L, lt2 k x.1 := fun x hx => hL.1 x.1 (List.mem_map_of_mem hx)
    rcases List.mem_cons.mp hk with e | hk
    · have e : k = u := e
      subst e
      have hin : ∀ x ∈ L, x.1 ∈ U := fun x hx => by
        rcases List.mem_cons.mp (h x (List.mem_cons_of_mem _ hx)) with e | e
        · exact absurd e.symm (lt2_ne (gtk x hx))
        · exact e
      have ih := look_all hU.2 hL.2 hin
      rw [List.filterMap_cons]
      have e1 : ((k, o) :: L).lookup k = some o := by rw [List.lookup_cons]; simp
      simp only [e1, Option.map_some]
      congr 1
      refine Eq.trans (fm_congr fun p hp => ?_) ih
      have hpk : (p == k) = false := beq_eq_false_iff_ne.mpr (fun e => by
        have := hU.1 p hp
        rw [e] at this
        exact lt2_ne this rfl)
      rw [List.lookup_cons, hpk]
    · have hnk : ∀ x ∈ (k, o) :: L, x.1 ≠ u := fun x hx e => by
        rcases List.mem_cons.mp hx with rfl | hx
        · exact lt2_ne (hU.1 _ hk) e.symm
        · exact lt2_ne (lt2_tr (hU.1 _ hk) (gtk x hx)) e.symm
      rw [List.filterMap_cons, look_skip hnk]
      refine look_all hU.2 (by rw [List.map_cons, List.pairwise_cons]; exact hL) fun x hx => ?_
      rcases List.mem_cons.mp (h x hx) with e | e
      · exact absurd e (hnk x hx)
      · exact e
theorem places_lt2 (w : Nat) : ∀ h : Nat, (places h w).Pairwise lt2
  | 0 => by simp [places]
  | h + 1 => by
    rw [places_succ]
    refine List.pairwise_append.mpr ⟨places_lt2 w h, ?_, ?_⟩
    · rw [List.pairwise_map]
      exact (List.pairwise_lt_range (n := w)).imp fun {a b} hab => .inr ⟨rfl, hab⟩
    · intro p hp q hq
      obtain ⟨c, hc, rfl⟩ := List.mem_map.mp hq
      exact .inl (places_mem.mp hp).1
/-- a shape's picture -/
def picOf (L : List ((Nat × Nat) × Option Nat)) (H W : Nat) : PicL := (List.range H).map fun i => (List.range W).map fun j => L.lookup (i, j)
theorem picOf_at (L : List ((Nat × Nat) × Option Nat)) {H W i : Nat} (h : i < H) : (picOf L H W)[i]? = some ((List.range W).map fun j => L.lookup (i, j)) := by
  unfold picOf
  rw [List.getElem?_map, List.getElem?_range h]
  rfl
theorem rowC_pic (L : List ((Nat × Nat) × Option Nat)) (i W : Nat) : ∀ m, m ≤ W → rowC i ((List.range W).map fun j => L.lookup (i, j)) m = ((List.range m).map fun c => (i, c)).filterMap fun p => (L.lookup p).map fun o => (p, o) := fun m hm => by
  unfold rowC
  rw [List.filterMap_map]
  refine fm_congr fun j hj => ?_
  have hj := List.mem_range.mp hj
  rw [List.getD_eq_getElem?_getD, List.getElem?_map, List.getElem?_range (by omega)]
  rfl
theorem allC_pic (L : List ((Nat × Nat) × Option Nat)) (H W : Nat) : ∀ m, m ≤ H → allC (picOf L H W) m = (places m W).filterMap fun p => (L.lookup p).map fun o => (p, o)
  | 0, _ => rfl
  | m + 1, h => by
    rw [allC_succ (picOf_at L (by omega)), allC_pic L H W m (by omega), places_succ, List.filterMap_append, List.length_map, List.length_range, rowC_pic L m W W (Nat.le_refl _)]
theorem pic_back {L : List ((Nat × Nat) × Option Nat)} {H W : Nat} (hL : (L.map (·.1)).Pairwise lt2) (h : ∀ x ∈ L, x.1.1 < H ∧ x.1.2 < W) : allC (picOf L H W) (picOf L H W).length = L := by
  have hl : (picOf L H W).length = H := by unfold picOf; rw [List.length_map, List.length_range]
  rw [hl, allC_pic L H W H (Nat.le_refl _)]
  exact look_all (places_lt2 W H) hL fun x hx => places_mem.mpr (h x hx)
theorem look_in {L : List ((Nat × Nat) × Option Nat)} {k : Nat × Nat} {o : Option Nat} (h : L.lookup k = some o) : (k, o) ∈ L := by
  induction L with
  | nil => cases h
  | cons x L ih =>
    obtain ⟨q, v⟩ := x
    rw [List.lookup_cons] at h
    cases e : k == q with
    | true =>
      rw [e] at h
      cases h
      have : k = q := by simpa using e
      subst this
      exact List.mem_cons_self
    | false =>
      rw [e] at h
      exact List.mem_cons_of_mem _ (ih h)
theorem picOf_ok {L : List ((Nat × Nat) × Option Nat)} {H W : Nat} (h0 : 0 < H) (w0 : 0 < W) (h1 : H ≤ 40) (w1 : W ≤ 40) (hs : ∀ x ∈ L, ∀ y, x.2 = some y → y < 36) : Pic W (picOf L H W) where
  hi := by
    unfold picOf
    intro z
    have := congrArg List.length z
    rw [List.length_map, List.length_range] at this
    simp at this
    omega
  wp := w0
  wd := fun r hr => by
    obtain ⟨i, _, rfl⟩ := List.mem_map.mp hr
    rw [List.length_map, List.length_range]
  h40 := by unfold picOf; rw [List.length_map, List.length_range]; exact h1
  w40 := w1
  sg := fun r hr x hx => by
    obtain ⟨i, _, rfl⟩ := List.mem_map.mp hr
    obtain ⟨j, _, e⟩ := List.mem_map.mp hx
    exact hs _ (look_in e) x rfl
/-- all torn, shown, the marks exchanged -/
theorem repl_one (a b : Nat) : ∀ l : List Nat, PySem.StrLaws.replL [a] [b] l = l.map fun c => if c = a then b else c
  | [] => PySem.StrLaws.replL_nil
  | c :: l => by
    by_cases e : c = a
    · rw [PySem.StrLaws.replL_hit (by simp) (by simp [e])]
      simp only [List.length_singleton, List.drop_one, List.tail_cons, List.map_cons, if_pos e]
      rw [repl_one a b l]
      rfl
    · rw [PySem.StrLaws.replL_miss (by simp [e]), repl_one a b l, List.map_cons, if_neg e]
/-- a table of cells and their signs -/
def sgK (L : List ((Nat × Nat) × Option Nat)) : List (List Key × PyData) := L.map fun x => (plK x.1, .str ⟨#[sgT x.2]⟩)
theorem sgK_len (L : List ((Nat × Nat) × Option Nat)) : (sgK L).length = L.length := by unfold sgK; rw [List.length_map]
theorem sgK_val (p : Nat × Nat) : ∀ L : List ((Nat × Nat) × Option Nat), valE (sgK L) (plK p) = (L.lookup p).map fun o => .str ⟨#[sgT o]⟩
  | [] => rfl
  | (q, o) :: L => by
    have ih := sgK_val p L
    rw [List.lookup_cons]
    by_cases hq : q = p
    · subst hq
      unfold valE sgK
      rw [List.map_cons, List.find?_cons, decide_eq_true rfl]
      simp
    · have hne : ¬ plK q = plK p := fun z => hq (plI_inj (kK_inj z))
      rw [beq_eq_false_iff_ne.mpr (fun e => hq e.symm)]
      unfold valE sgK at ih ⊢
      rw [List.map_cons, List.find?_cons, decide_eq_false hne]
      exact ih
theorem sgK_new {L : List ((Nat × Nat) × Option Nat)} {p : Nat × Nat} (h : L.lookup p = none) (o : Option Nat) : putE (sgK L) (plK p) (.str ⟨#[sgT o]⟩) = sgK (L ++ [(p, o)]) := by
  have hn := sgK_val p L
  rw [h] at hn
  have ha : ((sgK L).any fun kv => decide (kv.1 = plK p)) = false := by
    unfold valE at hn
    rw [List.any_eq_false]
    intro x hx
    have h2 := Option.map_eq_none_iff.mp hn
    have := List.find?_eq_none.mp h2 x hx
    simpa using this
  unfold putE
  rw [ha, if_neg (by decide)]
  unfold sgK
  rw [List.map_append]
  rfl
theorem look_take {cs : List (Nat × Nat)} (hn : cs.Nodup) (os : List (Option Nat)) {i : Nat} {c : Nat × Nat} (h : cs[i]? = some c) : ((cs.zip os).take i).lookup c = none := by
  refine look_skip fun x hx e => ?_
  obtain ⟨j, hj, ej⟩ := List.getElem_of_mem hx
  rw [List.length_take] at hj
  rw [List.getElem_take] at ej
  have h1 : cs[j]? = some c := by
    have h2 : (cs.zip os)[j]? = some x := by rw [List.getElem?_eq_getElem (by omega), ej]
    have := (List.getElem?_zip_eq_some.mp h2).1
    rw [this, e]
  obtain ⟨l1, e1⟩ := List.getElem?_eq_some_iff.mp h1
  obtain ⟨l2, e2⟩ := List.getElem?_eq_some_iff.mp h
  have := (List.getElem_inj hn).mp (e1.trans e2.symm)
  omega
/-- cells that fill a picture of that size -/
structure CkC (H w : Nat) (C : List (Nat × Nat)) : Prop where
  ne : C ≠ []
  le : C.length ≤ 16
  bd : ∀ c ∈ C, c.1 < H ∧ c.2 < w
  t0 : ∃ c ∈ C, c.1 = 0
  t1 : ∃ c ∈ C, c.1 + 1 = H
  s0 : ∃ c ∈ C, c.2 = 0
  s1 : ∃ c ∈ C, c.2 + 1 = w
theorem maxI_to {C : List (Nat × Nat)} {H : Nat} (f : Nat × Nat → Nat) (hb : ∀ c ∈ C, f c < H) (ht : ∃ c ∈ C, f c + 1 = H) : maxI (C.map fun c => ((f c : Nat) : Int)) = (H : Int) - 1 := by
  obtain ⟨c, hc, e⟩ := ht
  have hm := List.mem_map_of_mem (f := fun c => ((f c : Nat) : Int)) hc
  have h1 := maxI_ge hm
  have h2 := maxI_mem (ns := C.map fun c => ((f c : Nat) : Int)) (List.ne_nil_of_mem hm)
  obtain ⟨d, hd, e2⟩ := List.mem_map.mp h2
  have := hb d hd
  omega
theorem minI_to {C : List (Nat × Nat)} (f : Nat × Nat → Nat) (ht : ∃ c ∈ C, f c = 0) : minI (C.map fun c => ((f c : Nat) : Int)) = 0 := by
  obtain ⟨c, hc, e⟩ := ht
  have hm := List.mem_map_of_mem (f := fun c => ((f c : Nat) : Int)) hc
  obtain ⟨h1, h2⟩ := minI_spec (List.ne_nil_of_mem hm)
  have h3 := h2 _ hm
  obtain ⟨d, hd, e2⟩ := List.mem_map.mp h1
  omega
def dotS : Str := Str.ofString "."
theorem dot_eq : Str.ofString "." = ⟨#[46]⟩ := TL.ext_tl (by decide +kernel)
theorem hash_eq : Str.ofString "#" = ⟨#[35]⟩ := TL.ext_tl (by decide +kernel)
theorem qm_eq : Str.ofString "?" = ⟨#[63]⟩ := TL.ext_tl (by decide +kernel)
theorem one_ne {a b : Nat} (h : a ≠ b) : ¬ (⟨#[a]⟩ : Str) = ⟨#[b]⟩ := fun e => by
  have := congrArg (fun z : Str => z.cps.toList) e
  exact h (List.head_eq_of_cons_eq this)
theorem join_gT (r : List Nat) : Txt.join (Str.ofString "") (r.map fun o => (⟨#[o]⟩ : Str)) = gT r := TL.ext_tl (by
  rw [TL.join_eq, TL.tl_join, List.map_map, show TL.tl (Str.ofString "") = [] from rfl, joinL_nil, tl_gT]
  induction r with
  | nil => rfl
  | cons o r ih =>
    rw [List.map_cons, List.flatten_cons, ih]
    rfl)
theorem sum_onesG (r : List Nat) : (List.map (fun x : Str => x.length) (r.map fun o => (⟨#[o]⟩ : Str))).sum = r.length := by
  induction r with
  | nil => rfl
  | cons o r ih =>
    rw [List.map_cons, List.map_cons, List.sum_cons, ih, List.length_cons]
    show 1 + r.length = _
    omega
theorem sum_rowsG {w : Nat} : ∀ {T : List (List Nat)}, (∀ r ∈ T, r.length = w) → (List.map (fun x : Str => x.length) (T.map gT)).sum = T.length * w
  | [], _ => by simp
  | r :: T, h => by
    rw [List.map_cons, List.map_cons, List.sum_cons, sum_rowsG fun z hz => h z (List.mem_cons_of_mem _ hz), gT_len, h r List.mem_cons_self, List.length_cons, Nat.succ_mul, Nat.add_comm]
/-- torn all over, and the marks exchanged -/
theorem hash_text {w : Nat} {P : PicL} (A : Pic w P) (hn : ∀ r ∈ P, ∀ x, some (some x) ∉ r) : Txt.replace (gridT (picG P)) (Str.ofString "?") (Str.ofString "#") = gridT (hashG P) := TL.ext_tl (by
  have h1 := PySem.StrLaws.replace_list (x := gridT (picG P)) (y := Str.ofString "?") (z := Str.ofString "#") (by decide +kernel)
  have e1 : (Str.ofString "?").cps.toList = [63] := by decide +kernel
  have e2 : (Str.ofString "#").cps.toList = [35] := by decide +kernel
  rw [e1, e2, repl_one] at h1
  have h2 : TL.tl (Txt.replace (gridT (picG P)) (Str.ofString "?") (Str.ofString "#")) = (TL.tl (gridT (picG P))).map fun c => if c = 63 then 35 else c := h1
  rw [h2, tl_gridT, tl_gridT]
  have key : ∀ G : PicL, (∀ r ∈ G, ∀ x, some (some x) ∉ r) → (TL.joinL [47] (picG G)).map (fun c => if c = 63 then 35 else c) = TL.joinL [47] (hashG G) := by
    intro G
    have row : ∀ r : List (Option (Option Nat)), (∀ x, some (some x) ∉ r) → (r.map pcT).map (fun c => if c = 63 then 35 else c) = r.map hcT := fun r hr => by
      rw [List.map_map]
      refine List.map_congr_left fun o ho => ?_
      match o, ho with
      | none, _ => rfl
      | some none, _ => rfl
      | some (some x), ho => exact absurd ho (hr x)
    induction G with
    | nil => intro _; rfl
    | cons r G ih =>
      intro h
      have hr := row r (h r List.mem_cons_self)
      have ih := ih fun q hq => h q (List.mem_cons_of_mem _ hq)
      cases G with
      | nil => exact hr
      | cons q G =>
        show ((r.map pcT ++ ([47] ++ TL.joinL [47] (picG (q :: G)))).map fun c => if c = 63 then 35 else c) = r.map hcT ++ ([47] ++ TL.joinL [47] (hashG (q :: G)))
        rw [List.map_append, List.map_append, hr, ih]
        rfl
  exact key P hn)
theorem pcT_in {o : Option (Option Nat)} (h : ∀ x, o = some (some x) → x < 36) : pcT o ∈ (SG ++ Str.ofString "?.").cps.toList := by
  have e : (SG ++ Str.ofString "?.").cps.toList = SG.cps.toList ++ [63, 46] := TL.tl_append SG (Str.ofString "?.")
  rw [e]
  match o, h with
  | none, _ => exact List.mem_append_right _ (by decide)
  | some none, _ => exact List.mem_append_right _ (by decide)
  | some (some x), h => exact List.mem_append_left _ (List.mem_of_getElem? (sig_at x (h x rfl)))
def rwI (r : List Nat) : List Int := r.map fun (c : Nat) => ((c : Nat) : Int)
theorem tor_flo (T : List (List Nat)) : tor (T.map fun r => r.map some) = flo (T.map rwI) := by
  unfold tor flo
  rw [List.map_map, List.map_map]
  congr 1
  refine List.map_congr_left fun r _ => ?_
  show PyData.tuple ((r.map some).map optN) = PyData.tuple ((rwI r).map PyData.int)
  unfold rwI
  rw [List.map_map, List.map_map]
  rfl
theorem Tor.toFlo {w : Nat} {T : List (List Nat)} (A : Tor w (T.map fun r => r.map some)) : Flo 600 w (T.map rwI) where
  hi := by
    rw [List.length_map]
    have := List.length_pos_iff.mpr A.hi
    rw [List.length_map] at this
    exact this
  wp := A.wp
  wd := fun r hr => by
    obtain ⟨z, hz, rfl⟩ := List.mem_map.mp hr
    have := A.wd _ (List.mem_map_of_mem (f := fun r : List Nat => r.map some) hz)
    rw [List.length_map] at this
    unfold rwI
    rw [List.length_map]
    exact this
  ar := by
    have := A.ar
    rw [List.length_map] at this
    rw [List.length_map]
    exact this
  sg := fun r hr x hx => by
    obtain ⟨z, hz, rfl⟩ := List.mem_map.mp hr
    obtain ⟨y, hy, rfl⟩ := List.mem_map.mp hx
    have := A.sg _ (List.mem_map_of_mem (f := fun r : List Nat => r.map some) hz) y (List.mem_map_of_mem hy)
    omega
theorem csD_shp (cs : List (Nat × Nat)) : csD cs = shp (cs.map plI) := by
  unfold csD shp
  rw [List.map_map]
  rfl
theorem opts_sen (os : List (Option Nat)) : PyData.tuple (os.map optN) = sen (os.map fun o => o.map fun (x : Nat) => ((x : Nat) : Int)) := by
  unfold sen
  rw [List.map_map]
  congr 1
  refine List.map_congr_left fun o _ => ?_
  cases o <;> rfl
def fitL (os : List (Option Int)) (ws : List Int) : Bool := (os.zip ws).all fun p => match p.1 with
  | none => true
  | some x => decide (x = p.2)
theorem fitL_fits (w : Nat) (rows : List (List Int)) (r c : Int) : ∀ (cs : List (List Int)) (os : List (Option Int)), fitL os (winI w rows cs r c) = fitsB w rows cs os r c
  | [], os => by cases os <;> rfl
  | k :: cs, [] => rfl
  | k :: cs, o :: os => by
    have ih := fitL_fits w rows r c cs os
    show ((match o with | none => true | some x => decide (x = cellI w rows (r + k0 k) (c + k1 k))) && fitL os (winI w rows cs r c)) = (fitF w rows r c (k, o) && fitsB w rows cs os r c)
    rw [ih]
    congr 1
    cases o with
    | none => rfl
    | some x =>
      show decide (x = _) = decide (_ = x)
      exact decide_eq_decide.mpr ⟨Eq.symm, Eq.symm⟩
def dec2 (k : List Int) : Nat × Nat := ((k.getD 0 0).toNat, (k.getD 1 0).toNat)
theorem dec2_pl (p : Nat × Nat) : dec2 (plI p) = p := rfl
theorem lex_lt2 {a b : Nat × Nat} (h : leI (plI a) (plI b) = true) (hne : a ≠ b) : lt2 a b := by
  have h : (!lexI (plI b) (plI a)) = true := h
  rw [Bool.not_eq_true'] at h
  obtain ⟨a1, a2⟩ := a
  obtain ⟨b1, b2⟩ := b
  unfold plI lexI at h
  unfold lt2
  by_cases e : (b1 : Int) = (a1 : Int)
  · rw [if_pos e] at h
    unfold lexI at h
    have hb : (b2 : Int) ≠ (a2 : Int) := fun z => hne (by
      have : a1 = b1 := by omega
      have : a2 = b2 := by omega
      simp [*])
    rw [if_neg hb, decide_eq_false_iff_not] at h
    right
    exact ⟨by show a1 = b1; omega, by show a2 < b2; omega⟩
  · rw [if_neg e, decide_eq_false_iff_not] at h
    left
    show a1 < b1
    omega
theorem sort75 {l0 : List (Nat × Nat)} (nd : l0.Nodup) : ∃ cs : List (Nat × Nat), sortD ((l0.map plI).map tupI) = cs.map pD ∧ cs.Perm l0 ∧ cs.Pairwise lt2 := by
  have hp := isortL_perm (l0.map plI)
  have ho := isortL_ord (l0.map plI)
  rw [sortD_isort]
  generalize isortL (l0.map plI) = I at hp ho ⊢
  have hI : ∀ k ∈ I, ∃ p, p ∈ l0 ∧ k = plI p := fun k hk => by
    obtain ⟨p, h1, h2⟩ := List.mem_map.mp (hp.mem_iff.mp hk)
    exact ⟨p, h1, h2.symm⟩
  have e : I = (I.map dec2).map plI := by
    rw [List.map_map]
    refine (List.map_id _).symm.trans (List.map_congr_left fun k hk => ?_)
    obtain ⟨p, _, rfl⟩ := hI k hk
    rfl
  have hp2 : (I.map dec2).Perm l0 := by
    have := hp.map dec2
    rw [List.map_map] at this
    have e2 : l0.map (dec2 ∘ plI) = l0 := by
      refine (List.map_congr_left fun p _ => ?_).trans (List.map_id l0)
      rfl
    rw [e2] at this
    exact this
  refine ⟨I.map dec2, ?_, hp2, ?_⟩
  · conv => lhs; rw [e]
    rw [List.map_map]
    rfl
  · rw [e, List.pairwise_map] at ho
    exact (ho.and (hp2.nodup_iff.mpr nd)).imp fun {a b} h => lex_lt2 h.1 h.2
theorem max_of (f : Nat × Nat → Nat) : ∀ {cs : List (Nat × Nat)}, cs ≠ [] → ∃ c ∈ cs, ∀ d ∈ cs, f d ≤ f c
  | [], h => absurd rfl h
  | c :: cs, _ => by
    by_cases hc : cs = []
    · subst hc
      exact ⟨c, List.mem_cons_self, fun d hd => by rw [List.mem_singleton.mp hd]; exact Nat.le_refl _⟩
    · obtain ⟨m, hm, h⟩ := max_of f hc
      by_cases h2 : f c ≤ f m
      · exact ⟨m, List.mem_cons_of_mem _ hm, fun d hd => by
          rcases List.mem_cons.mp hd with rfl | hd
          · exact h2
          · exact h d hd⟩
      · exact ⟨c, List.mem_cons_self, fun d hd => by
          rcases List.mem_cons.mp hd with rfl | hd
          · exact Nat.le_refl _
          · have := h d hd
            omega⟩
/-- a shape as drawn -/
structure Sh7 (M A B : Nat) (cs : List (Nat × Nat)) : Prop where
  ord : cs.Pairwise lt2
  ck : ∃ H W, H ≤ A ∧ W ≤ B ∧ CkC H W cs
  le : cs.length ≤ M
theorem Sh7.nd {M A B : Nat} {cs : List (Nat × Nat)} (h : Sh7 M A B cs) : cs.Nodup := h.ord.imp fun {_ _} h => lt2_ne h
theorem fin_h2x {n : Nat} {S S2 X : S3} {Q : K3} {d : PyData} (h : H2To n S S2) (hl : S2.length = S.length) (q : Q (.p d) S2) : Fin3 S Q (.p d) (S2 ++ X) := ⟨S.length, Nat.le_refl _, trivial, by rw [← hl, List.take_left]; exact q⟩

theorem lay_all : ∀ {xs : List PyData}, (∀ x ∈ xs, PyData.canLay0 x = true) → PyData.canLayAll0 xs = true
  | [], _ => by unfold PyData.canLayAll0; rfl
  | x :: xs, h => by
    unfold PyData.canLayAll0
    rw [h x List.mem_cons_self, lay_all fun y hy => h y (List.mem_cons_of_mem _ hy)]
    rfl
theorem dep_all {m : Nat} : ∀ {xs : List PyData}, (∀ x ∈ xs, PyData.depth x ≤ m) → PyData.depthAll xs ≤ m
  | [], _ => by unfold PyData.depthAll; exact Nat.zero_le _
  | x :: xs, h => by
    unfold PyData.depthAll
    have h1 := h x List.mem_cons_self
    have h2 := dep_all fun y hy => h y (List.mem_cons_of_mem _ hy)
    exact Nat.max_le.mpr ⟨h1, h2⟩
theorem shaped_tp {m : Nat} (hm : m < 62) {xs : List PyData} (h : ∀ x ∈ xs, PyData.canLay0 x = true ∧ PyData.depth x ≤ m) : SeqAt.shaped (.tuple xs) = true := by
  have h1 := lay_all fun x hx => (h x hx).1
  have h2 := dep_all fun x hx => (h x hx).2
  unfold SeqAt.shaped PyData.canLay0 PyData.depth
  rw [h1]
  simp
  omega
theorem lay_ints2 (ws : List Int) : PyData.canLay0 (tupI ws) = true ∧ PyData.depth (tupI ws) ≤ 1 := by
  have h1 := lay_all (xs := ws.map PyData.int) fun x hx => by
    obtain ⟨c, _, rfl⟩ := List.mem_map.mp hx
    rfl
  have h2 := dep_all (m := 0) (xs := ws.map PyData.int) fun x hx => by
    obtain ⟨c, _, rfl⟩ := List.mem_map.mp hx
    exact Nat.le_refl _
  unfold tupI PyData.canLay0 PyData.depth
  exact ⟨h1, by omega⟩
theorem shaped_trows (l : List (List Int)) : SeqAt.shaped (.tuple (l.map tupI)) = true := shaped_tp (m := 1) (by decide) fun x hx => by
  obtain ⟨p, _, rfl⟩ := List.mem_map.mp hx
  exact lay_ints2 p
theorem shaped_csD (cs : List (Nat × Nat)) : SeqAt.shaped (csD cs) = true := by
  rw [csD_shp]
  exact shaped_trows _
theorem shaped_pls (l : List (Nat × Nat)) : SeqAt.shaped (.tuple (l.map pl)) = true := shaped_tp (m := 1) (by decide) fun x hx => by
  obtain ⟨p, _, rfl⟩ := List.mem_map.mp hx
  exact lay_ints2 (plI p)
theorem shaped_opts (os : List (Option Nat)) : SeqAt.shaped (.tuple (os.map optN)) = true := shaped_tp (m := 0) (by decide) fun x hx => by
  obtain ⟨p, _, rfl⟩ := List.mem_map.mp hx
  cases p <;> exact ⟨rfl, Nat.le_refl _⟩
theorem self_eq {d : PyData} (h : SeqAt.shaped d = true) : PyData.eqv d d = true := SeqAt.eqv_refl d (by
  unfold SeqAt.shaped at h
  simp only [Bool.and_eq_true] at h
  exact h.1)
theorem cs_fst (cs : List (Nat × Nat)) (os : List (Option Nat)) (h : os.length = cs.length) : (cs.zip os).map (·.1) = cs := by
  rw [List.map_fst_zip]
  omega
theorem cs_snd (cs : List (Nat × Nat)) (os : List (Option Nat)) (h : os.length = cs.length) : (cs.zip os).map (·.2) = os := by
  rw [List.map_snd_zip]
  omega
theorem rep_zip (cs : List (Nat × Nat)) : (cs.map fun c => (c, (none : Option Nat))) = cs.zip (List.replicate cs.length none) := by
  refine List.ext_getElem? fun i => ?_
  rw [List.getElem?_map]
  cases h : cs[i]? with
  | none =>
    rw [List.getElem?_eq_none (by rw [List.length_zip, List.length_replicate]; have := List.getElem?_eq_none_iff.mp h; omega)]
    rfl
  | some c =>
    have hi := (List.getElem?_eq_some_iff.mp h).1
    exact (List.getElem?_zip_eq_some.mpr ⟨h, by rw [List.getElem?_replicate, if_pos hi]⟩).symm
theorem pic_len (L : List ((Nat × Nat) × Option Nat)) (H W : Nat) : (picOf L H W).length = H := by unfold picOf; rw [List.length_map, List.length_range]
theorem pic_two {H W : Nat} {cs : List (Nat × Nat)} {os : List (Option Nat)} (ho : cs.Pairwise lt2) (C : CkC H W cs) (hl : os.length = cs.length) : allC (picOf (cs.zip os) H W) (picOf (cs.zip os) H W).length = cs.zip os :=
  pic_back (by rw [cs_fst cs os hl]; exact ho) fun x hx => C.bd _ (List.of_mem_zip hx).1
theorem Sh7.pos {H W : Nat} {cs : List (Nat × Nat)} (C : CkC H W cs) : 0 < H ∧ 0 < W := by
  obtain ⟨c, hc, e⟩ := C.t1
  obtain ⟨d, hd, e'⟩ := C.s1
  omega
theorem fitL_snoc {os : List (Option Int)} {ws : List Int} (h : os.length = ws.length) {o : Option Int} {y : Int} (ho : ∀ x, o = some x → x = y) (hf : fitL os ws = true) : fitL (os ++ [o]) (ws ++ [y]) = true := by
  unfold fitL at hf ⊢
  rw [List.zip_append h, List.all_append, hf]
  cases o with
  | none => rfl
  | some x =>
    rw [ho x rfl]
    simp
def fulP (T : List (List Nat)) : PicL := T.map fun r => r.map fun x => some (some x)
theorem full_row (i : Nat) (row : List Nat) : ∀ m, m ≤ row.length → (rowC i (row.map fun x => some (some x)) m).map (·.1) = (List.range m).map (fun j => (i, j)) ∧ (rowC i (row.map fun x => some (some x)) m).map (·.2) = (row.take m).map some
  | 0, _ => ⟨rfl, rfl⟩
  | m + 1, h => by
    obtain ⟨h1, h2⟩ := full_row i row m (by omega)
    have hm : row[m]? = some row[m] := List.getElem?_eq_getElem (by omega)
    have hr : (row.map fun x => some (some x))[m]? = some (some (some row[m])) := by rw [List.getElem?_map, hm]; rfl
    rw [rowC_som hr, List.map_append, List.map_append, h1, h2, List.range_succ, List.map_append, take_one hm, List.map_append]
    exact ⟨rfl, rfl⟩
theorem full_all {T : List (List Nat)} {w : Nat} (wd : ∀ r ∈ T, r.length = w) : ∀ m, m ≤ T.length → (allC (fulP T) m).map (·.1) = places m w ∧ (allC (fulP T) m).map (·.2) = (T.take m).flatten.map some
  | 0, _ => ⟨rfl, rfl⟩
  | m + 1, h => by
    obtain ⟨h1, h2⟩ := full_all wd m (by omega)
    have hm : T[m]? = some T[m] := List.getElem?_eq_getElem (by omega)
    have hr : (fulP T)[m]? = some (T[m].map fun x => some (some x)) := by unfold fulP; rw [List.getElem?_map, hm]; rfl
    have hl := wd T[m] (List.getElem_mem (by omega))
    obtain ⟨g1, g2⟩ := full_row m T[m] T[m].length (Nat.le_refl _)
    rw [allC_succ hr, List.length_map, List.map_append, List.map_append, h1, h2, g1, g2, places_succ, hl, take_one hm, List.flatten_append, List.map_append, List.flatten_singleton, ← hl, List.take_length]
    exact ⟨rfl, rfl⟩
theorem flat_seg {T : List (List Nat)} {w : Nat} : ∀ {T : List (List Nat)} {i : Nat} {r : List Nat}, (∀ r ∈ T, r.length = w) → T[i]? = some r → (T.flatten.drop (i * w)).take w = r
  | [], _, _, _, h => by simp at h
  | q :: T, 0, r, wd, h => by
    simp at h
    subst h
    have := wd q List.mem_cons_self
    rw [Nat.zero_mul, List.drop_zero, List.flatten_cons, List.take_append_of_le_length (by omega), List.take_of_length_le (by omega)]
  | q :: T, i + 1, r, wd, h => by
    have hq := wd q List.mem_cons_self
    have ih := flat_seg (T := T) (i := i) (r := r) (fun r hr => wd r (List.mem_cons_of_mem _ hr)) (by simpa using h)
    rw [List.flatten_cons, Nat.succ_mul, Nat.add_comm, ← List.drop_drop, ← hq, List.drop_left, hq]
    exact ih
theorem flat_len {w : Nat} : ∀ {T : List (List Nat)}, (∀ r ∈ T, r.length = w) → T.flatten.length = T.length * w
  | [], _ => by simp
  | q :: T, wd => by
    rw [List.flatten_cons, List.length_append, flat_len fun r hr => wd r (List.mem_cons_of_mem _ hr), wd q List.mem_cons_self, List.length_cons, Nat.succ_mul, Nat.add_comm]
theorem full_text (T : List (List Nat)) : floorT (T.map fun r => r.map some) = gridT (picG (fulP T)) := by
  rw [floorT_grid]
  congr 1
  unfold picG fulP
  rw [List.map_map, List.map_map]
  refine List.map_congr_left fun r _ => ?_
  show (r.map some).map sgT = (r.map fun x => some (some x)).map pcT
  rw [List.map_map, List.map_map]
  rfl
theorem full_pic {w : Nat} {T : List (List Nat)} (A : Tor w (T.map fun r => r.map some)) (h1 : T.length ≤ 40) (h2 : w ≤ 40) : Pic w (fulP T) where
  hi := by
    have := A.hi
    unfold fulP
    intro z
    exact this (by rw [List.map_eq_nil_iff] at z ⊢; exact z)
  wp := A.wp
  wd := fun r hr => by
    obtain ⟨z, hz, rfl⟩ := List.mem_map.mp hr
    have := A.wd _ (List.mem_map_of_mem (f := fun r : List Nat => r.map some) hz)
    rw [List.length_map] at this ⊢
    exact this
  h40 := by unfold fulP; rw [List.length_map]; exact h1
  w40 := h2
  sg := fun r hr x hx => by
    obtain ⟨z, hz, rfl⟩ := List.mem_map.mp hr
    obtain ⟨y, hy, e⟩ := List.mem_map.mp hx
    cases e
    exact A.sg _ (List.mem_map_of_mem (f := fun r : List Nat => r.map some) hz) x (List.mem_map_of_mem hy)
theorem full_ck {h w : Nat} (h0 : 0 < h) (w0 : 0 < w) (hl : h * w ≤ 16) : CkC h w (places h w) where
  ne := by
    intro z
    have := places_len w h
    rw [z] at this
    have := Nat.mul_pos h0 w0
    simp at *
    omega
  le := by rw [places_len]; exact hl
  bd := fun c hc => places_mem.mp hc
  t0 := ⟨(0, 0), places_mem.mpr ⟨h0, w0⟩, rfl⟩
  t1 := ⟨(h - 1, 0), places_mem.mpr ⟨by show h - 1 < h; omega, w0⟩, by show h - 1 + 1 = h; omega⟩
  s0 := ⟨(0, 0), places_mem.mpr ⟨h0, w0⟩, rfl⟩
  s1 := ⟨(0, w - 1), places_mem.mpr ⟨h0, by show w - 1 < w; omega⟩, by show w - 1 + 1 = w; omega⟩
theorem rsz_pos {a b c : Int} (hc : 0 < c) (hab : a < b) : PySem.Builtin.Range.rangeSize a b c = (b - a - 1) / c + 1 := by
  unfold PySem.Builtin.Range.rangeSize
  rw [if_pos hc, if_pos hab]
theorem rg_steps {h w : Nat} (h0 : 0 < h) (w0 : 0 < w) (hm : h * w ≤ 1000) : RgC 0 ((h * w : Nat) : Int) ((w : Nat) : Int) h := by
  have hw : w ≤ h * w := Nat.le_mul_of_pos_left w h0
  have hh : h ≤ h * w := Nat.le_mul_of_pos_right h w0
  have hrg : PySem.Builtin.Range.rangeSize 0 ((h * w : Nat) : Int) ((w : Nat) : Int) = (h : Nat) := by
    rw [rsz_pos (by omega) (by omega)]
    obtain ⟨k, rfl⟩ : ∃ k, h = k + 1 := ⟨h - 1, by omega⟩
    have e : (((k + 1) * w : Nat) : Int) - 0 - 1 = ((w : Int) - 1) + (k : Int) * (w : Int) := by
      rw [Nat.succ_mul, Int.natCast_add, Int.natCast_mul]
      omega
    rw [e, Int.add_mul_ediv_right _ _ (by omega), Int.ediv_eq_zero_of_lt (by omega) (by omega)]
    omega
  refine ⟨by omega, by omega, ?_, hrg⟩
  unfold PySem.Builtin.Range.small
  rw [hrg]
  simp only [PySem.Builtin.Range.rangeFitsLong, Bool.and_eq_true, Bool.or_eq_true, decide_eq_true_eq, beq_iff_eq]
  refine ⟨by omega, .inr ?_⟩
  rw [if_pos (by omega), decide_eq_true (by omega), decide_eq_true (by omega)]
  rfl
theorem cut3_seg {α : Type} (xs : List α) (a b : Nat) : cut3 xs (some (a : Int)) (some ((a + b : Nat) : Int)) = (xs.drop a).take b := by
  unfold cut3
  rw [HT.sIx_nat, HT.sIx_nat]
  by_cases h : a ≤ xs.length
  · rw [Nat.min_eq_left h]
    by_cases h2 : a + b ≤ xs.length
    · rw [Nat.min_eq_left h2, Nat.add_sub_cancel_left]
    · rw [Nat.min_eq_right (by omega), List.take_of_length_le (by rw [List.length_drop]; exact Nat.le_refl _), List.take_of_length_le (by rw [List.length_drop]; omega)]
  · rw [Nat.min_eq_right (by omega), Nat.min_eq_right (by omega), Nat.sub_self, List.take_zero, List.drop_eq_nil_of_le (by omega), List.take_nil]
section
variable {P : Program} {w : World} {K : PySem.W.Frag} {mg : Str → Option Value} {base : Heap}
def sp_show_torn : Sp3 := fun ds S Q => ∃ (w : Nat) (T : List (List (Option Nat))), ds = [.p (tor T)] ∧ Tor w T ∧ Q (.p (.str (floorT T))) S
def t_show_torn : TS3 := tSeq3 (tSet3 1 (tOwn (tLst3 (tNil3)))) (tSeq3 (tFor3 (tSeqI3 (tVar3 0)) (.nm 2) (tDrop3 (tApp3 (tVar3 1) (tJoin3 (tC3 (.str (PySem.Str.ofString ""))) (tPure (tLc3 (tSeqI3 (tVar3 2)) (.nm 3) (tYes3) (tIf3 (tTest3 (tOp3 rIs3 (tVar3 3) (tC3 .none))) (tC3 (.str (PySem.Str.ofString "?"))) (tOp3 rIx3 (tC3 (.str (PySem.Str.ofString "0123456789abcdefghijklmnopqrstuvwxyz"))) (tVar3 3))) [3])))))) (tRet3 (tJoin3 (tC3 (.str (PySem.Str.ofString "/"))) (tVar3 1))))
theorem dv_show_torn (T : Txt K mg base) {f : Addr} {cdv : Value} {A : Around} {outer : List Env} {s : Shared} {H : Hp} {E : XK} (hr : Room 0 (A.deeper (envOfC "show_torn" (defScope s_show_torn) s.heap.objs.size f cdv))) : QSs (cxOf CX0 P w K mg base nm_show_torn "show_torn" (defScope s_show_torn) f cdv A outer s H E).nox (defBody s_show_torn) t_show_torn :=
  qss_cons (qs_set (i := 1) sc_show_torn.nd rfl (by first | exact .inl rfl | exact .inr rfl) (qn_own (qn_lst (qa_nil)))) (qss_cons (qs_for PassesOwn.never rfl (qi_seq (qv 0)) (qb_nm (i := 2) sc_show_torn.nd rfl (by first | exact .inl rfl | exact .inr rfl)) (qss_one (qs_expr (qe_append (qv 1) (qe_join (qe_str) (qn_pure (qn_lc (own := [("sign", 3)]) rfl sc_show_torn.nd (qi_seq (qv 2)) (blkOk_by (own := [("sign", 3)]) (N := nm_show_torn) (sc := defScope s_show_torn) (by decide +kernel)) (fun _ _ _ _ _ => qb_nm (i := 3) sc_show_torn.nd rfl (by first | exact .inl rfl | exact .inr rfl)) (fun _ _ _ _ _ => qts_nil) (fun _ _ _ _ _ => qe_if (qt_cmp oq_is (qv 3) (qe_non)) (qe_str) (qe_ix iq_seq (qe_gl T.c_SIGNS (by rfl)) (qv 3)))))))))) (qss_one (qs_ret (qe_join (qe_str) (qv 1)))))
theorem rd_show_torn : ∀ ds S Q, sp_show_torn ds S Q → t_show_torn { nx := fun _ S' => Fin3 S Q (.p .none) S', rt := Fin3 S Q } (env0 4 ds) S := by
  rintro _ S Q ⟨w, T, rfl, A, q⟩
  unfold t_show_torn tor
  rw [show Str.ofString "0123456789abcdefghijklmnopqrstuvwxyz" = SG from rfl]
  walk_at "rd"
  have hh := A.h_le
  have hw := A.w_le
  have hq : Str.ofString "?" = ⟨#[63]⟩ := TL.ext_tl (by decide +kernel)
  refine ⟨fun i e s => ∃ z2 z3 : Option D, i ≤ T.length ∧ e = [some (.p (.tuple (T.map fun r => .tuple (r.map optN)))), some (.loc S.length), z2, z3] ∧ s = S ++ [some (.lst (((T.take i).map rowT).map PyData.str))], ⟨none, none, by omega, rfl, rfl⟩, fun _ _ _ _ => trivial, ?_, ?_⟩
  · rintro i x e s hx ⟨z2, z3, _, rfl, rfl⟩
    rw [List.getElem?_map] at hx
    obtain ⟨r, hr, rfl⟩ := Option.map_eq_some_iff.mp hx
    have hil := (List.getElem?_eq_some_iff.mp hr).1
    have hrl := A.wd r (List.mem_of_getElem? hr)
    have hsg := A.sg r (List.mem_of_getElem? hr)
    have g1 : ∀ o : Option O3, (S ++ [o])[S.length]? = some o := fun o => by rw [List.getElem?_append_right (Nat.le_refl _), Nat.sub_self]; rfl
    have g3 : ∀ o c : Option O3, (S ++ [o]).set S.length c = S ++ [c] := fun o c => by rw [List.set_append_right _ _ (Nat.le_refl _), Nat.sub_self]; rfl
    walk_at "rd"
    simp only [g1]
    walk_at "rd"
    refine ⟨fun j acc s' => s' = S ++ [some (.lst (((T.take i).map rowT).map PyData.str))] ∧ acc = ((r.take j).map fun o => (⟨#[sgT o]⟩ : Str)).map PyData.str, ⟨rfl, rfl⟩, fun _ _ _ _ => trivial, ?_, ?_⟩
    · rintro j d acc s' hd ⟨rfl, rfl⟩
      rw [List.getElem?_map] at hd
      obtain ⟨o, ho, rfl⟩ := Option.map_eq_some_iff.mp hd
      cases o with
      | none =>
        simp only [show optN none = PyData.none from rfl, if_true, hq]
        exact ⟨trivial, by rw [pt_take_one ho, List.map_append, List.map_append]; rfl⟩
      | some x =>
        have hx36 := hsg x (List.mem_of_getElem? ho)
        have ha : atI SG.cps.toList ((x : Nat) : Int) = some (sig x) := atI_nat (sig_at x hx36)
        have e1 : optN (some x) = .int (x : Nat) := rfl
        rw [if_neg (fun h => by cases h)]
        simp only [e1, ha]
        exact ⟨by rw [SG_len]; decide, trivial, by rw [pt_take_one ho, List.map_append, List.map_append]; rfl⟩
    · rintro acc s' ⟨rfl, rfl⟩
      rw [List.take_length, strs3_map]
      simp only [g1, g3]
      rw [join_rowT]
      refine ⟨by rw [sum_ones, show (Str.ofString "").length = 0 from rfl]; omega, by rw [List.length_map, List.length_map, List.length_take]; omega, wk_self ⟨_, _, by omega, rfl, ?_⟩⟩
      rw [pt_take_one hr, List.map_append, List.map_append]
      rfl
  · rintro e s ⟨z2, z3, _, rfl, rfl⟩
    have g1 : ∀ o : Option O3, (S ++ [o])[S.length]? = some o := fun o => by rw [List.getElem?_append_right (Nat.le_refl _), Nat.sub_self]; rfl
    walk_at "rd"
    simp only [g1]
    rw [List.take_length, strs3_map]
    have har := A.ar
    have h1 := sum_rows A.wd
    have h2 : (Str.ofString "/").length = 1 := slashS_len
    refine ⟨?_, fin_app q⟩
    rw [h2, List.length_map]
    have h3 : (List.map (fun x : Str => x.length) (List.map rowT T)).sum = T.length * w := h1
    omega
theorem ok_show_torn (T : Txt K mg base) : Ok3 P w K mg base 1 "show_torn" sp_show_torn := by
  obtain ⟨f, fd, F, hm, hb⟩ := T.f_show_torn
  exact Ok3.mk' F hm hb sc_show_torn (fun ds S Q h => by simp only [sp_show_torn] at h; first | (obtain ⟨rfl, _⟩ := h; rfl) | (obtain ⟨_, rfl, _⟩ := h; rfl) | (obtain ⟨_, _, rfl, _⟩ := h; rfl) | (obtain ⟨_, _, _, rfl, _⟩ := h; rfl) | (obtain ⟨_, _, _, _, rfl, _⟩ := h; rfl) | (obtain ⟨_, _, _, _, _, rfl, _⟩ := h; rfl) | (obtain ⟨_, _, _, _, _, _, rfl, _⟩ := h; rfl) | (obtain ⟨_, _, _, _, _, _, _, rfl, _⟩ := h; rfl) | (obtain ⟨_, _, _, _, _, _, _, _, rfl, _⟩ := h; rfl) | (obtain ⟨_, _, _, _, _, _, _, _, _, rfl, _⟩ := h; rfl) | (obtain ⟨_, _, _, _, _, _, _, _, _, _, rfl, _⟩ := h; rfl) | exact h.2) (fun cdv A outer s H E hr => dv_show_torn T hr) rd_show_torn
def sp_show_floor : Sp3 := sp_show_torn
def t_show_floor : TS3 := tRet3 (tCB3 sp_show_torn (tCons3 (tVar3 0) (tNil3)))
theorem dv_show_floor (T : Txt K mg base) {f : Addr} {cdv : Value} {A : Around} {outer : List Env} {s : Shared} {H : Hp} {E : XK} (hr : Room 1 (A.deeper (envOfC "show_floor" (defScope s_show_floor) s.heap.objs.size f cdv))) : QSs (cxOf CX0 P w K mg base nm_show_floor "show_floor" (defScope s_show_floor) f cdv A outer s H E).nox (defBody s_show_floor) t_show_floor :=
  qss_one (qs_ret (qe_call (ok_show_torn T) (hr.mono (by decide)) (by rfl) (qa_cons (qv 0) (qa_nil))))
theorem rd_show_floor : ∀ ds S Q, sp_show_floor ds S Q → t_show_floor { nx := fun _ S' => Fin3 S Q (.p .none) S', rt := Fin3 S Q } (env0 1 ds) S := by
  rintro _ S Q ⟨w, T, rfl, A, q⟩
  unfold t_show_floor sp_show_torn
  walk_at "rd"
  exact ⟨w, T, rfl, A, fin_p q⟩
theorem ok_show_floor (T : Txt K mg base) : Ok3 P w K mg base 2 "show_floor" sp_show_floor := by
  obtain ⟨f, fd, F, hm, hb⟩ := T.f_show_floor
  exact Ok3.mk' F hm hb sc_show_floor (fun ds S Q h => by simp only [sp_show_floor] at h; first | (obtain ⟨rfl, _⟩ := h; rfl) | (obtain ⟨_, rfl, _⟩ := h; rfl) | (obtain ⟨_, _, rfl, _⟩ := h; rfl) | (obtain ⟨_, _, _, rfl, _⟩ := h; rfl) | (obtain ⟨_, _, _, _, rfl, _⟩ := h; rfl) | (obtain ⟨_, _, _, _, _, rfl, _⟩ := h; rfl) | (obtain ⟨_, _, _, _, _, _, rfl, _⟩ := h; rfl) | (obtain ⟨_, _, _, _, _, _, _, rfl, _⟩ := h; rfl) | (obtain ⟨_, _, _, _, _, _, _, _, rfl, _⟩ := h; rfl) | (obtain ⟨_, _, _, _, _, _, _, _, _, rfl, _⟩ := h; rfl) | (obtain ⟨_, _, _, _, _, _, _, _, _, _, rfl, _⟩ := h; rfl) | exact h.2) (fun cdv A outer s H E hr => dv_show_floor T hr) rd_show_floor
def sp_show_seen : Sp3 := fun ds S Q => ∃ (H W : Nat) (cs : List (Nat × Nat)) (os : List (Option Nat)), ds = [.p (csD cs), .p (.tuple (os.map optN))] ∧ os.length = cs.length ∧ cs.Nodup ∧ CkC H W cs ∧ H ≤ 40 ∧ W ≤ 40 ∧ (∀ o ∈ os, ∀ x, o = some x → x < 36) ∧ Q (.p (.str (gridT (picG (picOf (cs.zip os) H W))))) S
def t_show_seen_b1 : TS3 := tTPut3 (tIf3 (tTest3 (tOp3 rIs3 (tVar3 7) (tC3 .none))) (tC3 (.str (PySem.Str.ofString "?"))) (tOp3 rIx3 (tC3 (.str (PySem.Str.ofString "0123456789abcdefghijklmnopqrstuvwxyz"))) (tVar3 7))) (tVar3 5) (tVar3 6)
def t_show_seen_b2 : TS3 := tDrop3 (tApp3 (tVar3 8) (tJoin3 (tC3 (.str (PySem.Str.ofString ""))) (tPure (tLc3 (tRng1 (tCons3 (tVar3 4) (tNil3))) (.nm 9) (tYes3) (tTGetD3 (tVar3 5) (tTup3 (tCons3 (tVar3 2) (tCons3 (tVar3 9) (tNil3)))) (tC3 (.str (PySem.Str.ofString ".")))) [9]))))
def t_show_seen_r5 : TS3 := tSeq3 (tFor3 (tRng1 (tCons3 (tVar3 3) (tNil3))) (.nm 2) (t_show_seen_b2)) (tRet3 (tJoin3 (tC3 (.str (PySem.Str.ofString "/"))) (tVar3 8)))
def t_show_seen_r4 : TS3 := tSeq3 (tSet3 8 (tOwn (tLst3 (tNil3)))) (t_show_seen_r5)
def t_show_seen_r3 : TS3 := tSeq3 (tFor3 (tZipI3 (tCons3 (tVar3 0) (tCons3 (tVar3 1) (tNil3)))) (.tup (.cons (.nm 6) (.cons (.nm 7) (.nil)))) (t_show_seen_b1)) (t_show_seen_r4)
def t_show_seen_r2 : TS3 := tSeq3 (tSet3 5 (tTNew3)) (t_show_seen_r3)
def t_show_seen_r1 : TS3 := tSeq3 (tSet3 4 (tOp3 rAdd3 (tC3 (.int 1)) (tCB3 (rMaxL3) (tCons3 (tPure (tLc3 (tSeqI3 (tVar3 0)) (.tup (.cons (.nm 2) (.cons (.nm 9) (.nil)))) (tYes3) (tVar3 9) [2, 9])) (tNil3))))) (t_show_seen_r2)
def t_show_seen : TS3 := tSeq3 (tSet3 3 (tOp3 rAdd3 (tC3 (.int 1)) (tCB3 (rMaxL3) (tCons3 (tPure (tLc3 (tSeqI3 (tVar3 0)) (.tup (.cons (.nm 2) (.cons (.nm 9) (.nil)))) (tYes3) (tVar3 2) [2, 9])) (tNil3))))) (t_show_seen_r1)
theorem dv_show_seen (T : Txt K mg base) {f : Addr} {cdv : Value} {A : Around} {outer : List Env} {s : Shared} {H : Hp} {E : XK} (hr : Room 0 (A.deeper (envOfC "show_seen" (defScope s_show_seen) s.heap.objs.size f cdv))) : QSs (cxOf CX0 P w K mg base nm_show_seen "show_seen" (defScope s_show_seen) f cdv A outer s H E).nox (defBody s_show_seen) t_show_seen :=
  qss_cons (qs_set (i := 3) sc_show_seen.nd rfl (by first | exact .inl rfl | exact .inr rfl) (qe_op oq_add (qe_int) (qe_cb (cq_maxL rfl) (by rfl) T.b_max (by decide +kernel) (qa_cons (qn_pure (qn_lc (own := [("i", 2), ("j", 9)]) rfl sc_show_seen.nd (qi_seq (qv 0)) (blkOk_by (own := [("i", 2), ("j", 9)]) (N := nm_show_seen) (sc := defScope s_show_seen) (by decide +kernel)) (fun _ _ _ _ _ => qb_tup rfl (qbs_cons (qb_nm (i := 2) sc_show_seen.nd rfl (by first | exact .inl rfl | exact .inr rfl)) (qbs_cons (qb_nm (i := 9) sc_show_seen.nd rfl (by first | exact .inl rfl | exact .inr rfl)) (qbs_nil)))) (fun _ _ _ _ _ => qts_nil) (fun _ _ _ _ _ => qv 2))) (qa_nil))))) (qss_cons (qs_set (i := 4) sc_show_seen.nd rfl (by first | exact .inl rfl | exact .inr rfl) (qe_op oq_add (qe_int) (qe_cb (cq_maxL rfl) (by rfl) T.b_max (by decide +kernel) (qa_cons (qn_pure (qn_lc (own := [("i", 2), ("j", 9)]) rfl sc_show_seen.nd (qi_seq (qv 0)) (blkOk_by (own := [("i", 2), ("j", 9)]) (N := nm_show_seen) (sc := defScope s_show_seen) (by decide +kernel)) (fun _ _ _ _ _ => qb_tup rfl (qbs_cons (qb_nm (i := 2) sc_show_seen.nd rfl (by first | exact .inl rfl | exact .inr rfl)) (qbs_cons (qb_nm (i := 9) sc_show_seen.nd rfl (by first | exact .inl rfl | exact .inr rfl)) (qbs_nil)))) (fun _ _ _ _ _ => qts_nil) (fun _ _ _ _ _ => qv 9))) (qa_nil))))) (qss_cons (qs_set (i := 5) sc_show_seen.nd rfl (by first | exact .inl rfl | exact .inr rfl) (qe_tnew)) (qss_cons (qs_for PassesOwn.never rfl (qi_zip rfl (by rfl) T.b_zip (qa_cons (qv 0) (qa_cons (qv 1) (qa_nil)))) (qb_tup rfl (qbs_cons (qb_nm (i := 6) sc_show_seen.nd rfl (by first | exact .inl rfl | exact .inr rfl)) (qbs_cons (qb_nm (i := 7) sc_show_seen.nd rfl (by first | exact .inl rfl | exact .inr rfl)) (qbs_nil)))) (qss_one (qs_tput T.nt hr.units (qe_if (qt_cmp oq_is (qv 7) (qe_non)) (qe_str) (qe_ix iq_seq (qe_gl T.c_SIGNS (by rfl)) (qv 7))) (qv 5) (qv 6)))) (qss_cons (qs_set (i := 8) sc_show_seen.nd rfl (by first | exact .inl rfl | exact .inr rfl) (qn_own (qn_lst (qa_nil)))) (qss_cons (qs_for PassesOwn.never rfl (qi_range1 (by rfl) T.b_range (qa_cons (qv 3) (qa_nil))) (qb_nm (i := 2) sc_show_seen.nd rfl (by first | exact .inl rfl | exact .inr rfl)) (qss_one (qs_expr (qe_append (qv 8) (qe_join (qe_str) (qn_pure (qn_lc (own := [("j", 9)]) rfl sc_show_seen.nd (qi_range1 (by rfl) T.b_range (qa_cons (qv 4) (qa_nil))) (blkOk_by (own := [("j", 9)]) (N := nm_show_seen) (sc := defScope s_show_seen) (by decide +kernel)) (fun _ _ _ _ _ => qb_nm (i := 9) sc_show_seen.nd rfl (by first | exact .inl rfl | exact .inr rfl)) (fun _ _ _ _ _ => qts_nil) (fun _ _ _ _ _ => qe_tgetD T.nt hr.units (qv 5) (qe_tup (qa_cons (qv 2) (qa_cons (qv 9) (qa_nil)))) (qe_str))))))))) (qss_one (qs_ret (qe_join (qe_str) (qv 8)))))))))
theorem rd_show_seen : ∀ ds S Q, sp_show_seen ds S Q → t_show_seen { nx := fun _ S' => Fin3 S Q (.p .none) S', rt := Fin3 S Q } (env0 10 ds) S := by
  rintro _ S Q ⟨H, W, cs, os, rfl, hl, hnd, K, hH, hW, hsg, q⟩
  unfold t_show_seen csD
  walk_at "rd"
  refine ⟨fun i acc s => s = S ∧ acc = ((cs.take i).map fun c => ((c.1 : Nat) : Int)).map PyData.int, ⟨rfl, rfl⟩, fun _ _ _ _ => trivial, ?_, ?_⟩
  · rintro i x acc s hx ⟨rfl, rfl⟩
    rw [List.getElem?_map] at hx
    obtain ⟨c, hc, rfl⟩ := Option.map_eq_some_iff.mp hx
    unfold pD
    walk_at "rd"
    rw [take_one hc, List.map_append, List.map_append]
    rfl
  rintro acc s ⟨rfl, rfl⟩
  rw [List.take_length]
  have m1 := maxI_to (H := H) (fun c : Nat × Nat => c.1) (fun c hc => (K.bd c hc).1) K.t1
  have m2 := maxI_to (H := W) (fun c : Nat × Nat => c.2) (fun c hc => (K.bd c hc).2) K.s1
  have n1 : cs.map (fun c => ((c.1 : Nat) : Int)) ≠ [] := fun z => K.ne (List.map_eq_nil_iff.mp z)
  have n2 : cs.map (fun c => ((c.2 : Nat) : Int)) ≠ [] := fun z => K.ne (List.map_eq_nil_iff.mp z)
  rw [allP_intsF]
  refine ⟨n1, ?_⟩
  rw [m1]
  unfold t_show_seen_r1
  walk_at "rd"
  refine ⟨fun i acc s' => s' = s ∧ acc = ((cs.take i).map fun c => ((c.2 : Nat) : Int)).map PyData.int, ⟨rfl, rfl⟩, fun _ _ _ _ => trivial, ?_, ?_⟩
  · rintro i x acc s' hx ⟨rfl, rfl⟩
    rw [List.getElem?_map] at hx
    obtain ⟨c, hc, rfl⟩ := Option.map_eq_some_iff.mp hx
    unfold pD
    walk_at "rd"
    rw [take_one hc, List.map_append, List.map_append]
    rfl
  rintro acc s' ⟨rfl, rfl⟩
  rw [List.take_length]
  rw [allP_intsF]
  refine ⟨n2, ?_⟩
  rw [m2, show (1 : Int) + ((H : Int) - 1) = (H : Nat) by omega, show (1 : Int) + ((W : Int) - 1) = (W : Nat) by omega]
  unfold t_show_seen_r2
  walk_at "rd"
  unfold t_show_seen_r3
  walk_at "rd"
  have zl : (zip3 (cs.map pD) (os.map optN)).length = cs.length := by rw [zip3_ln, List.length_map, List.length_map]; omega
  have hz : (cs.zip os).length = cs.length := by rw [List.length_zip]; omega
  have g0 : ∀ o : Option O3, (s' ++ [o])[s'.length]? = some o := fun o => by simp
  have gs0 : ∀ o c : Option O3, (s' ++ [o]).set s'.length c = s' ++ [c] := fun o c => by simp
  refine ⟨fun i e s => ∃ z2 z6 z7 : Option D, e = [some (.p (csD cs)), some (.p (.tuple (os.map optN))), z2, some (.p (.int (H : Nat))), some (.p (.int (W : Nat))), some (.loc s'.length), z6, z7, none, none] ∧ s = s' ++ [some (.dic (sgK ((cs.zip os).take i)))], ⟨none, none, none, rfl, rfl⟩, fun _ _ _ _ => trivial, ?_, ?_⟩
  · rintro i x e s hx ⟨z2, z6, z7, rfl, rfl⟩
    obtain ⟨a, b, ha, hb, rfl⟩ := zip3_at hx
    rw [List.getElem?_map] at ha hb
    obtain ⟨c, hc, rfl⟩ := Option.map_eq_some_iff.mp ha
    obtain ⟨o, ho, rfl⟩ := Option.map_eq_some_iff.mp hb
    have hzo : (cs.zip os)[i]? = some (c, o) := List.getElem?_zip_eq_some.mpr ⟨hc, ho⟩
    have hk := keyT_pl c
    have hlk := look_take hnd os hc
    have hle := K.le
    unfold t_show_seen_b1
    rw [show Str.ofString "0123456789abcdefghijklmnopqrstuvwxyz" = SG from rfl]
    walk_at "rd"
    have hkk : keyT (D.p (pD c)) = some (plK c) := hk
    have fin : putE (sgK ((cs.zip os).take i)) (plK c) (.str ⟨#[sgT o]⟩) = sgK ((cs.zip os).take (i + 1)) := by rw [sgK_new hlk, take_one hzo]
    have hlen : (sgK ((cs.zip os).take i)).length < 16777216 := by rw [sgK_len, List.length_take]; omega
    cases o with
    | none =>
      simp only [show optN none = PyData.none from rfl, g0, gs0, hkk, qm_eq, if_true]
      exact ⟨hlen, wk_self ⟨_, _, _, rfl, by rw [← fin]; rfl⟩⟩
    | some x =>
      have hx36 := hsg _ (List.mem_of_getElem? ho) x rfl
      have ha : atI SG.cps.toList ((x : Nat) : Int) = some (sig x) := atI_nat (sig_at x hx36)
      have e1 : optN (some x) = .int (x : Nat) := rfl
      simp only [e1, ha, g0, gs0, hkk, Bool.false_eq_true, if_false]
      exact ⟨by rw [SG_len]; decide, hlen, wk_self ⟨_, _, _, rfl, by rw [← fin]; rfl⟩⟩
  · rintro e s ⟨z2, z6, z7, rfl, rfl⟩
    rw [zl, ← hz, List.take_length]
    unfold t_show_seen_r4
    walk_at "rd"
    have hL1 : ∀ x : Option O3, (s' ++ [x]).length = s'.length + 1 := fun x => by simp
    simp only [hL1]
    have k0 : ∀ a b : Option O3, (s' ++ [a] ++ [b])[s'.length]? = some a := fun a b => by simp
    have k1 : ∀ a b : Option O3, (s' ++ [a] ++ [b])[s'.length + 1]? = some b := fun a b => by rw [List.append_assoc, List.getElem?_append_right (by omega), Nat.add_sub_cancel_left]; rfl
    have ks : ∀ a b d : Option O3, (s' ++ [a] ++ [b]).set (s'.length + 1) d = s' ++ [a] ++ [d] := fun a b d => by rw [List.append_assoc, List.set_append_right _ _ (by omega), Nat.add_sub_cancel_left]; simp
    generalize hLz : cs.zip os = L at *
    have hG : (picG (picOf L H W)).length = H := by unfold picG picOf; rw [List.length_map, List.length_map, List.length_range]
    have hGi : ∀ i, i < H → (picG (picOf L H W))[i]? = some ((List.range W).map fun j => pcT (L.lookup (i, j))) := fun i hi => by
      unfold picG
      rw [List.getElem?_map, picOf_at L hi]
      show some (((List.range W).map fun j => L.lookup (i, j)).map pcT) = _
      rw [List.map_map]
      rfl
    unfold t_show_seen_r5
    walk_at "rd"
    refine ⟨by omega, fun i e s => ∃ z2 z6 z7 : Option D, e = [some (.p (csD cs)), some (.p (.tuple (os.map optN))), z2, some (.p (.int (H : Nat))), some (.p (.int (W : Nat))), some (.loc s'.length), z6, z7, some (.loc (s'.length + 1)), none] ∧ s = s' ++ [some (.dic (sgK L))] ++ [some (.lst ((((picG (picOf L H W)).take i).map gT).map PyData.str))], ⟨_, _, _, rfl, rfl⟩, fun _ _ _ _ => trivial, ?_, ?_⟩
    · rintro i x e s hx ⟨z2, z6, z7, rfl, rfl⟩
      obtain ⟨hi, rfl⟩ := rng_get hx
      have hi : i < H := by omega
      unfold t_show_seen_b2
      walk_at "rd"
      simp only [k0, k1]
      refine ⟨⟨by omega, by omega⟩, fun j acc s => s = s' ++ [some (.dic (sgK L))] ++ [some (.lst ((((picG (picOf L H W)).take i).map gT).map PyData.str))] ∧ acc = ((List.range j).map fun j => (⟨#[pcT (L.lookup (i, j))]⟩ : Str)).map PyData.str, ⟨rfl, rfl⟩, fun _ _ _ _ => trivial, ?_, ?_⟩
      · rintro j x acc s hx ⟨rfl, rfl⟩
        obtain ⟨hj, rfl⟩ := rng_get hx
        have hkk : keyT (D.p (.tuple [.int ((i : Nat) : Int), .int ((j : Nat) : Int)])) = some (plK (i, j)) := keyT_pl (i, j)
        rw [Int.zero_add, Int.zero_add]
        simp only [k0, hkk]
        refine ⟨trivial, ?_⟩
        rw [sgK_val, List.range_succ, List.map_append, List.map_append]
        congr 1
        cases hlk : L.lookup (i, j) with
        | none =>
          rw [dot_eq, List.map_singleton, List.map_singleton, hlk]
          rfl
        | some o =>
          rw [List.map_singleton, List.map_singleton, hlk]
          rfl
      · rintro acc s ⟨rfl, rfl⟩
        rw [rng_len, show (((W : Nat) : Int)).toNat = W from Int.toNat_natCast W, strs3_map]
        have er : ((List.range W).map fun j => (⟨#[pcT (L.lookup (i, j))]⟩ : Str)) = ((List.range W).map fun j => pcT (L.lookup (i, j))).map fun o => (⟨#[o]⟩ : Str) := by rw [List.map_map]; rfl
        rw [er]
        simp only [k1, ks]
        rw [join_gT, sum_onesG]
        have hti : ((picG (picOf L H W)).take i).length ≤ H := by rw [List.length_take]; omega
        refine ⟨by simp only [List.length_map, List.length_range]; rw [show (Str.ofString "").length = 0 from rfl]; omega, by simp only [List.length_map]; omega, wk_self ⟨_, _, _, rfl, ?_⟩⟩
        rw [take_one (hGi i hi), List.map_append, List.map_append]
        rfl
    · rintro e s ⟨z2, z6, z7, rfl, rfl⟩
      rw [rng_len, show ((H : Nat) : Int).toNat = H from Int.toNat_natCast H, List.take_of_length_le (by rw [hG]; exact Nat.le_refl _)]
      walk_at "rd"
      simp only [k1]
      rw [strs3_map]
      have h1 := sum_rowsG (w := W) (T := picG (picOf L H W)) fun r hr => by
        obtain ⟨z, hz, rfl⟩ := List.mem_map.mp hr
        obtain ⟨i, _, rfl⟩ := List.mem_map.mp hz
        rw [List.length_map, List.length_map, List.length_range]
      have h2 : (Str.ofString "/").length = 1 := slashS_len
      refine ⟨?_, ?_⟩
      · rw [h1, h2, hG]
        simp only [List.length_map]
        rw [hG]
        have := Nat.mul_le_mul hH hW
        omega
      · rw [List.append_assoc]
        exact fin_app q
theorem ok_show_seen (T : Txt K mg base) : Ok3 P w K mg base 1 "show_seen" sp_show_seen := by
  obtain ⟨f, fd, F, hm, hb⟩ := T.f_show_seen
  exact Ok3.mk' F hm hb sc_show_seen (fun ds S Q h => by simp only [sp_show_seen] at h; first | (obtain ⟨rfl, _⟩ := h; rfl) | (obtain ⟨_, rfl, _⟩ := h; rfl) | (obtain ⟨_, _, rfl, _⟩ := h; rfl) | (obtain ⟨_, _, _, rfl, _⟩ := h; rfl) | (obtain ⟨_, _, _, _, rfl, _⟩ := h; rfl) | (obtain ⟨_, _, _, _, _, rfl, _⟩ := h; rfl) | (obtain ⟨_, _, _, _, _, _, rfl, _⟩ := h; rfl) | (obtain ⟨_, _, _, _, _, _, _, rfl, _⟩ := h; rfl) | (obtain ⟨_, _, _, _, _, _, _, _, rfl, _⟩ := h; rfl) | (obtain ⟨_, _, _, _, _, _, _, _, _, rfl, _⟩ := h; rfl) | (obtain ⟨_, _, _, _, _, _, _, _, _, _, rfl, _⟩ := h; rfl) | exact h.2) (fun cdv A outer s H E hr => dv_show_seen T hr) rd_show_seen
def sp_show_shape : Sp3 := fun ds S Q => ∃ (H W : Nat) (cs : List (Nat × Nat)), ds = [.p (csD cs)] ∧ cs.Nodup ∧ CkC H W cs ∧ H ≤ 40 ∧ W ≤ 40 ∧ Q (.p (.str (gridT (hashG (picOf (cs.map fun c => (c, none)) H W))))) S
def t_show_shape : TS3 := tRet3 (tRepl3 (PySem.Str.ofString "?") (PySem.Str.ofString "#") (tCB3 sp_show_seen (tCons3 (tVar3 0) (tCons3 (tCB3 (rTupOf3) (tCons3 (tPure (tLc3 (tSeqI3 (tVar3 0)) (.nm 1) (tYes3) (tC3 .none) [1])) (tNil3))) (tNil3)))))
theorem dv_show_shape (T : Txt K mg base) {f : Addr} {cdv : Value} {A : Around} {outer : List Env} {s : Shared} {H : Hp} {E : XK} (hr : Room 1 (A.deeper (envOfC "show_shape" (defScope s_show_shape) s.heap.objs.size f cdv))) : PSsT (cxOf CX0 P w K mg base nm_show_shape "show_shape" (defScope s_show_shape) f cdv A outer s H E) (defBody s_show_shape) (lowS K t_show_shape) :=
  qst_ret (qet_repl (qe_call (ok_show_seen T) (hr.mono (by decide)) (by rfl) (qa_cons (qv 0) (qa_cons (qe_ty cq_tuple (by rfl) T.b_tuple (by decide +kernel) (qa_cons (qn_pure (qn_lc (own := [("cell", 1)]) rfl sc_show_shape.nd (qi_seq (qv 0)) (blkOk_by (own := [("cell", 1)]) (N := nm_show_shape) (sc := defScope s_show_shape) (by decide +kernel)) (fun _ _ _ _ _ => qb_nm (i := 1) sc_show_shape.nd rfl (by first | exact .inl rfl | exact .inr rfl)) (fun _ _ _ _ _ => qts_nil) (fun _ _ _ _ _ => qe_non))) (qa_nil))) (qa_nil)))))
theorem rd_show_shape : ∀ ds S Q, sp_show_shape ds S Q → t_show_shape { nx := fun _ S' => Fin3 S Q (.p .none) S', rt := Fin3 S Q } (env0 2 ds) S := by
  rintro _ S Q ⟨H, W, cs, rfl, hnd, K, hH, hW, q⟩
  unfold t_show_shape sp_show_seen csD
  walk_at "rd"
  refine ⟨fun i acc s => s = S ∧ acc = (List.replicate i none).map optN, ⟨rfl, rfl⟩, fun _ _ _ _ => trivial, ?_, ?_⟩
  · rintro i x acc s hx ⟨rfl, rfl⟩
    refine ⟨rfl, ?_⟩
    rw [List.replicate_succ', List.map_append]
    rfl
  rintro acc s ⟨rfl, rfl⟩
  have hz : cs.zip (List.replicate cs.length (none : Option Nat)) = cs.map fun c => (c, none) := by
    refine List.ext_getElem? fun i => ?_
    rw [List.getElem?_map]
    cases h : cs[i]? with
    | none =>
      rw [List.getElem?_eq_none (by rw [List.length_zip, List.length_replicate]; have := List.getElem?_eq_none_iff.mp h; omega)]
      rfl
    | some c =>
      have hi := (List.getElem?_eq_some_iff.mp h).1
      exact List.getElem?_zip_eq_some.mpr ⟨h, by rw [List.getElem?_replicate, if_pos hi]⟩
  have hno : ∀ x ∈ cs.map (fun c => (c, (none : Option Nat))), x.2 = none := fun x hx => by
    obtain ⟨c, _, rfl⟩ := List.mem_map.mp hx
    rfl
  have k0 : 0 < H := by
    obtain ⟨c, hc, e⟩ := K.t1
    omega
  have w0 : 0 < W := by
    obtain ⟨c, hc, e⟩ := K.s1
    omega
  have A := picOf_ok (L := cs.map fun c => (c, (none : Option Nat))) k0 w0 hH hW fun x hx y e => by
    rw [hno x hx] at e
    cases e
  refine ⟨H, W, cs, List.replicate cs.length none, rfl, by rw [List.length_replicate], hnd, K, hH, hW, fun o ho x e => ?_, ?_⟩
  · rw [(List.mem_replicate.mp ho).2] at e
    cases e
  rw [hz]
  have hlen := A.grd.t_le
  rw [hash_text A fun r hr x hx => by
    obtain ⟨i, _, rfl⟩ := List.mem_map.mp hr
    obtain ⟨j, _, e⟩ := List.mem_map.mp hx
    have := hno _ (look_in e)
    cases this]
  have l1 : (Str.ofString "#").length = 1 := by decide +kernel
  walk_at "rd"
  exact ⟨by rw [l1]; omega, fin_p q⟩
theorem ok_show_shape (T : Txt K mg base) : Ok3 P w K mg base 2 "show_shape" sp_show_shape := by
  obtain ⟨f, fd, F, hm, hb⟩ := T.f_show_shape
  exact Ok3.mkT F hm hb sc_show_shape (by decide +kernel) (by decide) (fun ds S Q h => by simp only [sp_show_shape] at h; first | (obtain ⟨rfl, _⟩ := h; rfl) | (obtain ⟨_, rfl, _⟩ := h; rfl) | (obtain ⟨_, _, rfl, _⟩ := h; rfl) | (obtain ⟨_, _, _, rfl, _⟩ := h; rfl) | (obtain ⟨_, _, _, _, rfl, _⟩ := h; rfl) | exact h.2) (fun cdv A outer s H E hr => dv_show_shape T hr) rd_show_shape
def sp_picture_rows : Sp3 := fun ds S Q => ∃ (w : Nat) (G : List (List Nat)) (sg : Str), ds = [.p (.str (gridT G)), .p (.str sg)] ∧ Grd w G ∧ (∀ r ∈ G, ∀ c ∈ r, c ∈ sg.cps.toList) ∧ Q (.p (.list ((G.map gT).map PyData.str))) S
def t_picture_rows : TS3 := tSeq3 (tSet3 2 (tSplit3 (tVar3 0) (tC3 (.str (PySem.Str.ofString "/"))))) (tSeq3 (tFor3 (tSeqI3 (tVar3 2)) (.nm 3) (tSeq3 (tIfS3 (tOr3 (tTest3 (tOp3 rEqS3 (tVar3 3) (tC3 (.str (PySem.Str.ofString ""))))) (tTest3 (tOp3 rNeS3 (tCB3 (rLenA3) (tCons3 (tVar3 3) (tNil3))) (tCB3 (rLenA3) (tCons3 (tOp3 rIx3 (tVar3 2) (tC3 (.int 0))) (tNil3)))))) (tNever3) (tNext3)) (tIfS3 (tNot3 (tTest3 (tCB3 (rAll3) (tCons3 (tPure (tLc3 (tStrI3 (tVar3 3)) (.nm 4) (tYes3) (tOp3 rInT3 (tVar3 4) (tVar3 1)) [4])) (tNil3))))) (tNever3) (tNext3)))) (tRet3 (tVar3 2)))
theorem dv_picture_rows (T : Txt K mg base) {f : Addr} {cdv : Value} {A : Around} {outer : List Env} {s : Shared} {H : Hp} {E : XK} (hr : Room 0 (A.deeper (envOfC "picture_rows" (defScope s_picture_rows) s.heap.objs.size f cdv))) : QSs (cxOf CX0 P w K mg base nm_picture_rows "picture_rows" (defScope s_picture_rows) f cdv A outer s H E).nox (defBody s_picture_rows) t_picture_rows :=
  qss_cons (qs_set (i := 2) sc_picture_rows.nd rfl (by first | exact .inl rfl | exact .inr rfl) (qe_split (qv 0) (qe_str))) (qss_cons (qs_for PassesOwn.never rfl (qi_seq (qv 2)) (qb_nm (i := 3) sc_picture_rows.nd rfl (by first | exact .inl rfl | exact .inr rfl)) (qss_cons (qs_if (qt_w (qw_or (qt_cmp (oq_eqS hr.units) (qv 3) (qe_str)) (qw_or1 (qt_cmp (oq_neS hr.units) (qe_cb cq_lenA (by rfl) T.b_len (by decide +kernel) (qa_cons (qv 3) (qa_nil))) (qe_cb cq_lenA (by rfl) T.b_len (by decide +kernel) (qa_cons (qe_ix iq_seq (qv 2) (qe_int)) (qa_nil))))))) (qss_one (qs_never)) (qss_nil)) (qss_one (qs_if (qt_not (qt_val (qe_cb (cq_all rfl) (by rfl) T.b_all (by decide +kernel) (qa_cons (qn_pure (qn_lc (own := [("sign", 4)]) rfl sc_picture_rows.nd (qi_str (qv 3)) (blkOk_by (own := [("sign", 4)]) (N := nm_picture_rows) (sc := defScope s_picture_rows) (by decide +kernel)) (fun _ _ _ _ _ => qb_nm (i := 4) sc_picture_rows.nd rfl (by first | exact .inl rfl | exact .inr rfl)) (fun _ _ _ _ _ => qts_nil) (fun _ _ _ _ _ => qe_cmp oq_inT (qv 4) (qv 1)))) (qa_nil))))) (qss_one (qs_never)) (qss_nil))))) (qss_one (qs_ret (qv 2))))
theorem rd_picture_rows : ∀ ds S Q, sp_picture_rows ds S Q → t_picture_rows { nx := fun _ S' => Fin3 S Q (.p .none) S', rt := Fin3 S Q } (env0 5 ds) S := by
  rintro _ S Q ⟨w, G, sg, rfl, A, hsg, q⟩
  unfold t_picture_rows
  walk_at "rd"
  have hh := A.h_le
  have hw := A.w_le
  have w0 := A.wp
  have hfl := A.t_le
  rw [show Str.ofString "/" = slashS from rfl, split_gridT A, slashS_len, List.length_map]
  refine ⟨by decide, by omega, by omega, fun i e s => ∃ z3 z4 : Option D, s = S ∧ e = [some (.p (.str (gridT G))), some (.p (.str sg)), some (.p (.list ((G.map gT).map PyData.str))), z3, z4], ⟨_, _, rfl, rfl⟩, fun _ _ _ _ => trivial, ?_, ?_⟩
  · rintro i x e s hx ⟨z3, z4, rfl, rfl⟩
    rw [List.getElem?_map, List.getElem?_map] at hx
    obtain ⟨z, hz, rfl⟩ := Option.map_eq_some_iff.mp hx
    obtain ⟨r, hr, rfl⟩ := Option.map_eq_some_iff.mp hz
    have hrl := A.wd r (List.mem_of_getElem? hr)
    obtain ⟨r0, h0⟩ : ∃ r0, G[0]? = some r0 := by
      have := List.length_pos_iff.mpr A.hi
      exact ⟨_, List.getElem?_eq_getElem this⟩
    have h0l := A.wd r0 (List.mem_of_getElem? h0)
    have e0 : ((G.map gT).map PyData.str)[0]? = some (.str (gT r0)) := by rw [List.getElem?_map, List.getElem?_map, h0]; rfl
    walk_at "rd"
    simp only [e0]
    walk_at "rd"
    have hne : ¬ gT r = Str.ofString "" := fun e => by
      have := congrArg Str.length e
      rw [gT_len, hrl, show (Str.ofString "").length = 0 from rfl] at this
      omega
    rw [if_neg hne]
    have l1 := gT_len r
    have l0 := gT_len r0
    rw [hrl] at l1
    rw [h0l] at l0
    refine ⟨by omega, by omega, ?_⟩
    rw [if_neg (by omega)]
    refine ⟨by omega, fun j acc s' => s' = s ∧ acc = (List.replicate j true).map PyData.bool, ⟨rfl, rfl⟩, fun _ _ _ _ => trivial, ?_, ?_⟩
    · rintro j d acc s' hd ⟨rfl, rfl⟩
      unfold sgs at hd
      rw [List.getElem?_map] at hd
      obtain ⟨c, hc, rfl⟩ := Option.map_eq_some_iff.mp hd
      have hcm : c ∈ r := List.mem_of_getElem? hc
      have hin := hsg r (List.mem_of_getElem? hr) c hcm
      show s' = s' ∧ _ ++ [PyData.bool (decide (c ∈ sg.cps.toList))] = _
      rw [decide_eq_true hin]
      exact ⟨rfl, by rw [List.replicate_succ', List.map_append]; rfl⟩
    · rintro acc s' ⟨rfl, rfl⟩
      rw [allP_bls]
      simp only [tall_true]
      rw [if_neg (by decide)]
      exact wk_self ⟨_, _, rfl, rfl⟩
  · rintro e s ⟨z3, z4, rfl, rfl⟩
    walk_at "rd"
    exact fin_p q
theorem ok_picture_rows (T : Txt K mg base) : Ok3 P w K mg base 1 "picture_rows" sp_picture_rows := by
  obtain ⟨f, fd, F, hm, hb⟩ := T.f_picture_rows
  exact Ok3.mk' F hm hb sc_picture_rows (fun ds S Q h => by simp only [sp_picture_rows] at h; first | (obtain ⟨rfl, _⟩ := h; rfl) | (obtain ⟨_, rfl, _⟩ := h; rfl) | (obtain ⟨_, _, rfl, _⟩ := h; rfl) | (obtain ⟨_, _, _, rfl, _⟩ := h; rfl) | (obtain ⟨_, _, _, _, rfl, _⟩ := h; rfl) | (obtain ⟨_, _, _, _, _, rfl, _⟩ := h; rfl) | (obtain ⟨_, _, _, _, _, _, rfl, _⟩ := h; rfl) | (obtain ⟨_, _, _, _, _, _, _, rfl, _⟩ := h; rfl) | (obtain ⟨_, _, _, _, _, _, _, _, rfl, _⟩ := h; rfl) | (obtain ⟨_, _, _, _, _, _, _, _, _, rfl, _⟩ := h; rfl) | (obtain ⟨_, _, _, _, _, _, _, _, _, _, rfl, _⟩ := h; rfl) | exact h.2) (fun cdv A outer s H E hr => dv_picture_rows T hr) rd_picture_rows
def sp_read_torn : Sp3 := fun ds S Q => ∃ (w : Nat) (T : List (List (Option Nat))), ds = [.p (.str (floorT T))] ∧ Tor w T ∧ Q (.p (tor T)) S
def t_read_torn : TS3 := tSeq3 (tSet3 1 (tCB3 sp_picture_rows (tCons3 (tVar3 0) (tCons3 (tOp3 rAdd3 (tC3 (.str (PySem.Str.ofString "0123456789abcdefghijklmnopqrstuvwxyz"))) (tC3 (.str (PySem.Str.ofString "?")))) (tNil3))))) (tSeq3 (tIfS3 (tTest3 (tOp3 rGt3 (tOp3 rMulT3 (tCB3 (rLenA3) (tCons3 (tVar3 1) (tNil3))) (tCB3 (rLenA3) (tCons3 (tOp3 rIx3 (tVar3 1) (tC3 (.int 0))) (tNil3)))) (tC3 (.int 600)))) (tNever3) (tNext3)) (tRet3 (tCB3 (rTupOf3) (tCons3 (tPure (tLc3 (tSeqI3 (tVar3 1)) (.nm 2) (tYes3) (tCB3 (rTupOf3) (tCons3 (tPure (tLc3 (tStrI3 (tVar3 2)) (.nm 3) (tYes3) (tIf3 (tTest3 (tOp3 rEqS3 (tVar3 3) (tC3 (.str (PySem.Str.ofString "?"))))) (tC3 .none) (tSIdx3 (tC3 (.str (PySem.Str.ofString "0123456789abcdefghijklmnopqrstuvwxyz"))) (tVar3 3))) [3])) (tNil3))) [2])) (tNil3)))))
theorem dv_read_torn (T : Txt K mg base) {f : Addr} {cdv : Value} {A : Around} {outer : List Env} {s : Shared} {H : Hp} {E : XK} (hr : Room 1 (A.deeper (envOfC "read_torn" (defScope s_read_torn) s.heap.objs.size f cdv))) : QSs (cxOf CX0 P w K mg base nm_read_torn "read_torn" (defScope s_read_torn) f cdv A outer s H E).nox (defBody s_read_torn) t_read_torn :=
  qss_cons (qs_set (i := 1) sc_read_torn.nd rfl (by first | exact .inl rfl | exact .inr rfl) (qe_call (ok_picture_rows T) (hr.mono (by decide)) (by rfl) (qa_cons (qv 0) (qa_cons (qe_op oq_add (qe_gl T.c_SIGNS (by rfl)) (qe_str)) (qa_nil))))) (qss_cons (qs_if (qt_cmp oq_gt (qe_op oq_mulT (qe_cb cq_lenA (by rfl) T.b_len (by decide +kernel) (qa_cons (qv 1) (qa_nil))) (qe_cb cq_lenA (by rfl) T.b_len (by decide +kernel) (qa_cons (qe_ix iq_seq (qv 1) (qe_int)) (qa_nil)))) (qe_gl T.c_MOST_PLACES (by rfl))) (qss_one (qs_never)) (qss_nil)) (qss_one (qs_ret (qe_ty cq_tuple (by rfl) T.b_tuple (by decide +kernel) (qa_cons (qn_pure (qn_lc (own := [("row", 2)]) rfl sc_read_torn.nd (qi_seq (qv 1)) (blkOk_by (own := [("row", 2)]) (N := nm_read_torn) (sc := defScope s_read_torn) (by decide +kernel)) (fun _ _ _ _ _ => qb_nm (i := 2) sc_read_torn.nd rfl (by first | exact .inl rfl | exact .inr rfl)) (fun _ _ _ _ _ => qts_nil) (fun _ _ _ _ _ => qe_ty cq_tuple (by rfl) T.b_tuple (by decide +kernel) (qa_cons (qn_pure (qn_lc (own := [("sign", 3)]) rfl sc_read_torn.nd (qi_str (qv 2)) (by refine blkOk_by (own := [("sign", 3)]) ?_; walk_at "bd") (fun _ _ _ _ _ => qb_nm (i := 3) sc_read_torn.nd rfl (by first | exact .inl rfl | exact .inr rfl)) (fun _ _ _ _ _ => qts_nil) (fun _ _ _ _ _ => qe_if (qt_cmp (oq_eqS hr.units) (qv 3) (qe_str)) (qe_non) (qe_sidx (qe_gl T.c_SIGNS (by rfl)) (qv 3))))) (qa_nil))))) (qa_nil))))))
theorem rd_read_torn : ∀ ds S Q, sp_read_torn ds S Q → t_read_torn { nx := fun _ S' => Fin3 S Q (.p .none) S', rt := Fin3 S Q } (env0 4 ds) S := by
  rintro _ S Q ⟨w, T, rfl, A, q⟩
  unfold t_read_torn sp_picture_rows
  rw [show Str.ofString "0123456789abcdefghijklmnopqrstuvwxyz" = SG from rfl]
  walk_at "rd"
  have hh := A.h_le
  have hw := A.w_le
  have hGr : (T.map fun r => r.map sgT).map gT = T.map rowT := by rw [List.map_map]; rfl
  refine ⟨by rw [SG_len]; decide, w, T.map fun r => r.map sgT, _, by rw [floorT_grid], A.grd, fun r hr c hc => ?_, ?_⟩
  · obtain ⟨z, hz, rfl⟩ := List.mem_map.mp hr
    obtain ⟨o, ho, rfl⟩ := List.mem_map.mp hc
    exact sgT_in fun x e => A.sg z hz x (by rw [← e]; exact ho)
  rw [hGr]
  simp only [List.length_map]
  obtain ⟨r0, h0⟩ : ∃ r0, T[0]? = some r0 := by
    have := List.length_pos_iff.mpr A.hi
    exact ⟨_, List.getElem?_eq_getElem this⟩
  have h0l := A.wd r0 (List.mem_of_getElem? h0)
  have e0 : ((T.map rowT).map PyData.str)[0]? = some (.str (rowT r0)) := by rw [List.getElem?_map, List.getElem?_map, h0]; rfl
  simp only [e0]
  have l0 := rowT_len r0
  rw [h0l] at l0
  have har := A.ar
  rw [l0]
  refine ⟨by omega, mulOk_lit (by omega), ?_⟩
  rw [if_neg (by rw [← Int.natCast_mul]; omega)]
  have hq : Str.ofString "?" = ⟨#[63]⟩ := TL.ext_tl (by decide +kernel)
  refine ⟨fun i acc s => s = S ∧ acc = (T.take i).map fun r => .tuple (r.map optN), ⟨rfl, rfl⟩, fun _ _ _ _ => trivial, ?_, ?_⟩
  · rintro i d acc s hd ⟨rfl, rfl⟩
    rw [List.getElem?_map, List.getElem?_map] at hd
    obtain ⟨z, hz, rfl⟩ := Option.map_eq_some_iff.mp hd
    obtain ⟨r, hr, rfl⟩ := Option.map_eq_some_iff.mp hz
    have hrl := A.wd r (List.mem_of_getElem? hr)
    have hsg := A.sg r (List.mem_of_getElem? hr)
    have l1 := rowT_len r
    refine ⟨by omega, fun j acc s' => s' = s ∧ acc = (r.take j).map optN, ⟨rfl, rfl⟩, fun _ _ _ _ => trivial, ?_, ?_⟩
    · rintro j d acc s' hd ⟨rfl, rfl⟩
      unfold sgs at hd
      rw [List.getElem?_map] at hd
      obtain ⟨c, hc, rfl⟩ := Option.map_eq_some_iff.mp hd
      have hc : (r.map sgT)[j]? = some c := hc
      rw [List.getElem?_map] at hc
      obtain ⟨o, ho, rfl⟩ := Option.map_eq_some_iff.mp hc
      dsimp only
      rw [pt_take_one ho, List.map_append]
      cases o with
      | none =>
        rw [if_pos (by rw [hq]; rfl)]
        exact ⟨rfl, rfl⟩
      | some x =>
        have hx36 := hsg x (List.mem_of_getElem? ho)
        have hne : ¬ (⟨#[sgT (some x)]⟩ : Str) = Str.ofString "?" := fun e => by
          rw [hq] at e
          have := congrArg (fun z : Str => z.cps.toList) e
          exact (sig_free x hx36).2.1 (List.head_eq_of_cons_eq this)
        rw [if_neg hne]
        have hi : (Builtin.Str.occurrences SG ⟨#[sgT (some x)]⟩ 0 SG.length 1).head? = some x := sig_idx x hx36
        split
        · rename_i k rest hk
          rw [hk] at hi
          cases hi
          exact ⟨rfl, rfl⟩
        · rename_i hk
          rw [hk] at hi
          cases hi
    · rintro acc s' ⟨rfl, rfl⟩
      have hsl : (sgs (rowT r)).length = r.length := by
        unfold sgs
        rw [List.length_map]
        exact (List.length_map _)
      rw [hsl, List.take_length]
      refine ⟨rfl, ?_⟩
      rw [pt_take_one hr, List.map_append]
      rfl
  · rintro acc s ⟨rfl, rfl⟩
    rw [List.take_length]
    exact fin_p q
theorem ok_read_torn (T : Txt K mg base) : Ok3 P w K mg base 2 "read_torn" sp_read_torn := by
  obtain ⟨f, fd, F, hm, hb⟩ := T.f_read_torn
  exact Ok3.mk' F hm hb sc_read_torn (fun ds S Q h => by simp only [sp_read_torn] at h; first | (obtain ⟨rfl, _⟩ := h; rfl) | (obtain ⟨_, rfl, _⟩ := h; rfl) | (obtain ⟨_, _, rfl, _⟩ := h; rfl) | (obtain ⟨_, _, _, rfl, _⟩ := h; rfl) | (obtain ⟨_, _, _, _, rfl, _⟩ := h; rfl) | (obtain ⟨_, _, _, _, _, rfl, _⟩ := h; rfl) | (obtain ⟨_, _, _, _, _, _, rfl, _⟩ := h; rfl) | (obtain ⟨_, _, _, _, _, _, _, rfl, _⟩ := h; rfl) | (obtain ⟨_, _, _, _, _, _, _, _, rfl, _⟩ := h; rfl) | (obtain ⟨_, _, _, _, _, _, _, _, _, rfl, _⟩ := h; rfl) | (obtain ⟨_, _, _, _, _, _, _, _, _, _, rfl, _⟩ := h; rfl) | exact h.2) (fun cdv A outer s H E hr => dv_read_torn T hr) rd_read_torn
def sp_read_floor : Sp3 := fun ds S Q => ∃ (w : Nat) (T : List (List Nat)), ds = [.p (.str (floorT (T.map fun r => r.map some)))] ∧ Tor w (T.map fun r => r.map some) ∧ Q (.p (tor (T.map fun r => r.map some))) S
def t_read_floor : TS3 := tSeq3 (tIfS3 (tTest3 (tOp3 rInT3 (tC3 (.str (PySem.Str.ofString "?"))) (tVar3 0))) (tNever3) (tNext3)) (tRet3 (tCB3 sp_read_torn (tCons3 (tVar3 0) (tNil3))))
theorem dv_read_floor (T : Txt K mg base) {f : Addr} {cdv : Value} {A : Around} {outer : List Env} {s : Shared} {H : Hp} {E : XK} (hr : Room 2 (A.deeper (envOfC "read_floor" (defScope s_read_floor) s.heap.objs.size f cdv))) : QSs (cxOf CX0 P w K mg base nm_read_floor "read_floor" (defScope s_read_floor) f cdv A outer s H E).nox (defBody s_read_floor) t_read_floor :=
  qss_cons (qs_if (qt_cmp oq_inT (qe_str) (qv 0)) (qss_one (qs_never)) (qss_nil)) (qss_one (qs_ret (qe_call (ok_read_torn T) (hr.mono (by decide)) (by rfl) (qa_cons (qv 0) (qa_nil)))))
theorem rd_read_floor : ∀ ds S Q, sp_read_floor ds S Q → t_read_floor { nx := fun _ S' => Fin3 S Q (.p .none) S', rt := Fin3 S Q } (env0 1 ds) S := by
  rintro _ S Q ⟨w, T, rfl, A, q⟩
  unfold t_read_floor sp_read_torn
  walk_at "rd"
  have hq : (Str.ofString "?").cps.toList = [63] := by decide +kernel
  have hno : 63 ∉ (floorT (T.map fun r => r.map some)).cps.toList := fun hm => by
    have hm : 63 ∈ TL.tl (floorT (T.map fun r => r.map some)) := hm
    rw [tl_floorT] at hm
    rcases joinL_mem hm with hm | ⟨p, hp, hm⟩
    · simp at hm
    · obtain ⟨r, hr, rfl⟩ := List.mem_map.mp hp
      obtain ⟨o, ho, e⟩ := List.mem_map.mp hm
      obtain ⟨r0, _, rfl⟩ := List.mem_map.mp hr
      obtain ⟨x, _, rfl⟩ := List.mem_map.mp ho
      exact (sig_free x (A.sg _ hr x ho)).2.1 e
  simp only [hq]
  rw [if_neg hno]
  exact ⟨w, _, rfl, A, fin_p q⟩
theorem ok_read_floor (T : Txt K mg base) : Ok3 P w K mg base 3 "read_floor" sp_read_floor := by
  obtain ⟨f, fd, F, hm, hb⟩ := T.f_read_floor
  exact Ok3.mk' F hm hb sc_read_floor (fun ds S Q h => by simp only [sp_read_floor] at h; first | (obtain ⟨rfl, _⟩ := h; rfl) | (obtain ⟨_, rfl, _⟩ := h; rfl) | (obtain ⟨_, _, rfl, _⟩ := h; rfl) | (obtain ⟨_, _, _, rfl, _⟩ := h; rfl) | (obtain ⟨_, _, _, _, rfl, _⟩ := h; rfl) | (obtain ⟨_, _, _, _, _, rfl, _⟩ := h; rfl) | (obtain ⟨_, _, _, _, _, _, rfl, _⟩ := h; rfl) | (obtain ⟨_, _, _, _, _, _, _, rfl, _⟩ := h; rfl) | (obtain ⟨_, _, _, _, _, _, _, _, rfl, _⟩ := h; rfl) | (obtain ⟨_, _, _, _, _, _, _, _, _, rfl, _⟩ := h; rfl) | (obtain ⟨_, _, _, _, _, _, _, _, _, _, rfl, _⟩ := h; rfl) | exact h.2) (fun cdv A outer s H E hr => dv_read_floor T hr) rd_read_floor
def sp_checked_cells : Sp3 := fun ds S Q => ∃ (n w : Nat) (C : List (Nat × Nat)) (R : List Str), ds = [.loc n, .p (.list (R.map PyData.str))] ∧ S[n]? = some (some (.lst (C.map pD))) ∧ R ≠ [] ∧ (∀ x ∈ R, x.length = w) ∧ R.length ≤ 40 ∧ w ≤ 40 ∧ CkC R.length w C ∧ Q (.p (csD C)) S
def t_checked_cells_r3 : TS3 := tSeq3 (tIfS3 (tOr3 (tTest3 (tOp3 rGt3 (tCB3 (rMinL3) (tCons3 (tVar3 2) (tNil3))) (tC3 (.int 0)))) (tOr3 (tTest3 (tOp3 rLtD3 (tCB3 (rMaxL3) (tCons3 (tVar3 2) (tNil3))) (tOp3 rSub3 (tCB3 (rLenA3) (tCons3 (tVar3 1) (tNil3))) (tC3 (.int 1))))) (tOr3 (tTest3 (tOp3 rGt3 (tCB3 (rMinL3) (tCons3 (tVar3 3) (tNil3))) (tC3 (.int 0)))) (tTest3 (tOp3 rLtD3 (tCB3 (rMaxL3) (tCons3 (tVar3 3) (tNil3))) (tOp3 rSub3 (tCB3 (rLenA3) (tCons3 (tOp3 rIx3 (tVar3 1) (tC3 (.int 0))) (tNil3))) (tC3 (.int 1)))))))) (tNever3) (tNext3)) (tRet3 (tCB3 (rTupOf3) (tCons3 (tVar3 0) (tNil3))))
def t_checked_cells_r2 : TS3 := tSeq3 (tSet3 3 (tPure (tLc3 (tSeqI3 (tVar3 0)) (.tup (.cons (.nm 4) (.cons (.nm 5) (.nil)))) (tYes3) (tVar3 5) [4, 5]))) (t_checked_cells_r3)
def t_checked_cells_r1 : TS3 := tSeq3 (tSet3 2 (tPure (tLc3 (tSeqI3 (tVar3 0)) (.tup (.cons (.nm 4) (.cons (.nm 5) (.nil)))) (tYes3) (tVar3 4) [4, 5]))) (t_checked_cells_r2)
def t_checked_cells : TS3 := tSeq3 (tIfS3 (tOr3 (tNot3 (tTest3 (tChain3 rLe3 rLe3 (tC3 (.int 1)) (tCB3 (rLenA3) (tCons3 (tVar3 0) (tNil3))) (tC3 (.int 16))))) (tOr3 (tTest3 (tOp3 rGt3 (tCB3 (rLenA3) (tCons3 (tVar3 1) (tNil3))) (tOp3 rAdd3 (tC3 (.int 39)) (tC3 (.int 1))))) (tTest3 (tOp3 rGt3 (tCB3 (rLenA3) (tCons3 (tOp3 rIx3 (tVar3 1) (tC3 (.int 0))) (tNil3))) (tOp3 rAdd3 (tC3 (.int 39)) (tC3 (.int 1))))))) (tNever3) (tNext3)) (t_checked_cells_r1)
theorem dv_checked_cells (T : Txt K mg base) {f : Addr} {cdv : Value} {A : Around} {outer : List Env} {s : Shared} {H : Hp} {E : XK} (hr : Room 0 (A.deeper (envOfC "checked_cells" (defScope s_checked_cells) s.heap.objs.size f cdv))) : QSs (cxOf CX0 P w K mg base nm_checked_cells "checked_cells" (defScope s_checked_cells) f cdv A outer s H E).nox (defBody s_checked_cells) t_checked_cells :=
  qss_cons (qs_if (qt_w (qw_or (qt_not (qt_chain oq_le oq_le (qe_int) (qe_cb cq_lenA (by rfl) T.b_len (by decide +kernel) (qa_cons (qv 0) (qa_nil))) (qe_gl T.c_MOST_CELLS (by rfl)))) (qw_or (qt_cmp oq_gt (qe_cb cq_lenA (by rfl) T.b_len (by decide +kernel) (qa_cons (qv 1) (qa_nil))) (qe_op oq_add (qe_gl T.c_FARTHEST (by rfl)) (qe_int))) (qw_or1 (qt_cmp oq_gt (qe_cb cq_lenA (by rfl) T.b_len (by decide +kernel) (qa_cons (qe_ix iq_seq (qv 1) (qe_int)) (qa_nil))) (qe_op oq_add (qe_gl T.c_FARTHEST (by rfl)) (qe_int))))))) (qss_one (qs_never)) (qss_nil)) (qss_cons (qs_setLcP (i := 2) (own := [("i", 4), ("j", 5)]) rfl sc_checked_cells.nd rfl rfl (sw_true rfl rfl rfl (by decide +kernel)) (qi_seq (qv 0)) (blkOk_by (own := [("i", 4), ("j", 5)]) (N := nm_checked_cells) (sc := defScope s_checked_cells) (by decide +kernel)) (fun _ _ _ _ _ => qb_tup rfl (qbs_cons (qb_nm (i := 4) sc_checked_cells.nd rfl (by first | exact .inl rfl | exact .inr rfl)) (qbs_cons (qb_nm (i := 5) sc_checked_cells.nd rfl (by first | exact .inl rfl | exact .inr rfl)) (qbs_nil)))) (fun _ _ _ _ _ => qts_nil) (fun _ _ _ _ _ => qv 4)) (qss_cons (qs_setLcP (i := 3) (own := [("i", 4), ("j", 5)]) rfl sc_checked_cells.nd rfl rfl (sw_true rfl rfl rfl (by decide +kernel)) (qi_seq (qv 0)) (blkOk_by (own := [("i", 4), ("j", 5)]) (N := nm_checked_cells) (sc := defScope s_checked_cells) (by decide +kernel)) (fun _ _ _ _ _ => qb_tup rfl (qbs_cons (qb_nm (i := 4) sc_checked_cells.nd rfl (by first | exact .inl rfl | exact .inr rfl)) (qbs_cons (qb_nm (i := 5) sc_checked_cells.nd rfl (by first | exact .inl rfl | exact .inr rfl)) (qbs_nil)))) (fun _ _ _ _ _ => qts_nil) (fun _ _ _ _ _ => qv 5)) (qss_cons (qs_if (qt_w (qw_or (qt_cmp oq_gt (qe_cb (cq_minL rfl) (by rfl) T.b_min (by decide +kernel) (qa_cons (qv 2) (qa_nil))) (qe_int)) (qw_or (qt_cmp (oq_ltD hr.units) (qe_cb (cq_maxL rfl) (by rfl) T.b_max (by decide +kernel) (qa_cons (qv 2) (qa_nil))) (qe_op oq_sub (qe_cb cq_lenA (by rfl) T.b_len (by decide +kernel) (qa_cons (qv 1) (qa_nil))) (qe_int))) (qw_or (qt_cmp oq_gt (qe_cb (cq_minL rfl) (by rfl) T.b_min (by decide +kernel) (qa_cons (qv 3) (qa_nil))) (qe_int)) (qw_or1 (qt_cmp (oq_ltD hr.units) (qe_cb (cq_maxL rfl) (by rfl) T.b_max (by decide +kernel) (qa_cons (qv 3) (qa_nil))) (qe_op oq_sub (qe_cb cq_lenA (by rfl) T.b_len (by decide +kernel) (qa_cons (qe_ix iq_seq (qv 1) (qe_int)) (qa_nil))) (qe_int)))))))) (qss_one (qs_never)) (qss_nil)) (qss_one (qs_ret (qe_ty cq_tuple (by rfl) T.b_tuple (by decide +kernel) (qa_cons (qv 0) (qa_nil))))))))
theorem rd_checked_cells : ∀ ds S Q, sp_checked_cells ds S Q → t_checked_cells { nx := fun _ S' => Fin3 S Q (.p .none) S', rt := Fin3 S Q } (env0 6 ds) S := by
  rintro _ S Q ⟨n, w, C, R, rfl, hn, hR, hw, hRl, hwl, K, q⟩
  have hCl := K.le
  have hC0 : 0 < C.length := List.length_pos_iff.mpr K.ne
  have hR0 : 0 < R.length := List.length_pos_iff.mpr hR
  obtain ⟨r0, h0⟩ : ∃ r0, R[0]? = some r0 := ⟨_, List.getElem?_eq_getElem hR0⟩
  have h0l := hw r0 (List.mem_of_getElem? h0)
  have e0 : (R.map PyData.str)[0]? = some (.str r0) := by rw [List.getElem?_map, h0]; rfl
  unfold t_checked_cells
  walk_at "rd"
  simp only [hn, e0]
  walk_at "rd"
  rw [if_pos (by omega), if_neg (by omega), if_neg (by omega), if_neg (by omega)]
  refine ⟨by omega, ?_⟩
  unfold t_checked_cells_r1
  walk_at "rd"
  simp only [hn]
  have n1 : C.map (fun c => ((c.1 : Nat) : Int)) ≠ [] := fun z => K.ne (List.map_eq_nil_iff.mp z)
  have n2 : C.map (fun c => ((c.2 : Nat) : Int)) ≠ [] := fun z => K.ne (List.map_eq_nil_iff.mp z)
  have a1 := minI_to (C := C) (fun c : Nat × Nat => c.1) K.t0
  have a2 := minI_to (C := C) (fun c : Nat × Nat => c.2) K.s0
  have b1 := maxI_to (H := R.length) (fun c : Nat × Nat => c.1) (fun c hc => (K.bd c hc).1) K.t1
  have b2 := maxI_to (H := w) (fun c : Nat × Nat => c.2) (fun c hc => (K.bd c hc).2) K.s1
  refine ⟨_, rfl, fun i acc s => s = S ∧ acc = ((C.take i).map fun c => ((c.1 : Nat) : Int)).map PyData.int, ⟨rfl, rfl⟩, fun i acc s h => by rw [h.1]; exact hn, ?_, ?_⟩
  · rintro i x acc s hx ⟨rfl, rfl⟩
    rw [List.getElem?_map] at hx
    obtain ⟨c, hc, rfl⟩ := Option.map_eq_some_iff.mp hx
    unfold pD
    walk_at "rd"
    rw [take_one hc, List.map_append, List.map_append]
    rfl
  rintro acc s ⟨rfl, rfl⟩
  rw [List.length_map, List.take_length]
  unfold t_checked_cells_r2
  walk_at "rd"
  simp only [hn]
  refine ⟨_, rfl, fun i acc s' => s' = s ∧ acc = ((C.take i).map fun c => ((c.2 : Nat) : Int)).map PyData.int, ⟨rfl, rfl⟩, fun i acc s h => by rw [h.1]; exact hn, ?_, ?_⟩
  · rintro i x acc s' hx ⟨rfl, rfl⟩
    rw [List.getElem?_map] at hx
    obtain ⟨c, hc, rfl⟩ := Option.map_eq_some_iff.mp hx
    unfold pD
    walk_at "rd"
    rw [take_one hc, List.map_append, List.map_append]
    rfl
  rintro acc s' ⟨rfl, rfl⟩
  rw [List.length_map, List.take_length]
  unfold t_checked_cells_r3
  walk_at "rd"
  simp only [allP_intsF, hn, e0, a1, a2, b1, b2]
  refine ⟨n1, ?_⟩
  rw [if_neg (by omega)]
  refine ⟨n1, ?_⟩
  rw [if_neg (by omega)]
  refine ⟨n2, ?_⟩
  rw [if_neg (by omega)]
  refine ⟨n2, by omega, ?_⟩
  rw [if_neg (by omega)]
  exact fin_p q
theorem ok_checked_cells (T : Txt K mg base) : Ok3 P w K mg base 1 "checked_cells" sp_checked_cells := by
  obtain ⟨f, fd, F, hm, hb⟩ := T.f_checked_cells
  exact Ok3.mk' F hm hb sc_checked_cells (fun ds S Q h => by simp only [sp_checked_cells] at h; first | (obtain ⟨rfl, _⟩ := h; rfl) | (obtain ⟨_, rfl, _⟩ := h; rfl) | (obtain ⟨_, _, rfl, _⟩ := h; rfl) | (obtain ⟨_, _, _, rfl, _⟩ := h; rfl) | (obtain ⟨_, _, _, _, rfl, _⟩ := h; rfl) | (obtain ⟨_, _, _, _, _, rfl, _⟩ := h; rfl) | (obtain ⟨_, _, _, _, _, _, rfl, _⟩ := h; rfl) | (obtain ⟨_, _, _, _, _, _, _, rfl, _⟩ := h; rfl) | (obtain ⟨_, _, _, _, _, _, _, _, rfl, _⟩ := h; rfl) | (obtain ⟨_, _, _, _, _, _, _, _, _, rfl, _⟩ := h; rfl) | (obtain ⟨_, _, _, _, _, _, _, _, _, _, rfl, _⟩ := h; rfl) | exact h.2) (fun cdv A outer s H E hr => dv_checked_cells T hr) rd_checked_cells
def sp_read_seen : Sp3 := fun ds S Q => ∃ (w : Nat) (P : PicL), ds = [.p (.str (gridT (picG P)))] ∧ Pic w P ∧ CkC P.length w ((allC P P.length).map (·.1)) ∧ Q (.p (.tuple [csD ((allC P P.length).map (·.1)), .tuple (((allC P P.length).map (·.2)).map optN)])) S
def t_read_seen_b2 : TS3 := tIfS3 (tTest3 (tOp3 rNeS3 (tVar3 7) (tC3 (.str (PySem.Str.ofString "."))))) (tSeq3 (tDrop3 (tApp3 (tVar3 2) (tTup3 (tCons3 (tVar3 4) (tCons3 (tVar3 6) (tNil3)))))) (tDrop3 (tApp3 (tVar3 3) (tIf3 (tTest3 (tOp3 rEqS3 (tVar3 7) (tC3 (.str (PySem.Str.ofString "?"))))) (tC3 .none) (tSIdx3 (tC3 (.str (PySem.Str.ofString "0123456789abcdefghijklmnopqrstuvwxyz"))) (tVar3 7)))))) (tNext3)
def t_read_seen_b1 : TS3 := tFor3 (tEnumS3 (tCons3 (tVar3 5) (tNil3))) (.tup (.cons (.nm 6) (.cons (.nm 7) (.nil)))) (t_read_seen_b2)
def t_read_seen : TS3 := tSeq3 (tSet3 1 (tCB3 sp_picture_rows (tCons3 (tVar3 0) (tCons3 (tOp3 rAdd3 (tC3 (.str (PySem.Str.ofString "0123456789abcdefghijklmnopqrstuvwxyz"))) (tC3 (.str (PySem.Str.ofString "?.")))) (tNil3))))) (tSeq3 (tSet3 2 (tOwn (tLst3 (tNil3)))) (tSeq3 (tSet3 3 (tOwn (tLst3 (tNil3)))) (tSeq3 (tFor3 (tEnumA3 (tCons3 (tVar3 1) (tNil3))) (.tup (.cons (.nm 4) (.cons (.nm 5) (.nil)))) (t_read_seen_b1)) (tRet3 (tTup3 (tCons3 (tCB3 sp_checked_cells (tCons3 (tVar3 2) (tCons3 (tVar3 1) (tNil3)))) (tCons3 (tCB3 (rTupOf3) (tCons3 (tVar3 3) (tNil3))) (tNil3))))))))
theorem dv_read_seen (T : Txt K mg base) {f : Addr} {cdv : Value} {A : Around} {outer : List Env} {s : Shared} {H : Hp} {E : XK} (hr : Room 1 (A.deeper (envOfC "read_seen" (defScope s_read_seen) s.heap.objs.size f cdv))) : QSs (cxOf CX0 P w K mg base nm_read_seen "read_seen" (defScope s_read_seen) f cdv A outer s H E).nox (defBody s_read_seen) t_read_seen :=
  qss_cons (qs_set (i := 1) sc_read_seen.nd rfl (by first | exact .inl rfl | exact .inr rfl) (qe_call (ok_picture_rows T) (hr.mono (by decide)) (by rfl) (qa_cons (qv 0) (qa_cons (qe_op oq_add (qe_gl T.c_SIGNS (by rfl)) (qe_str)) (qa_nil))))) (qss_cons (qs_set (i := 2) sc_read_seen.nd rfl (by first | exact .inl rfl | exact .inr rfl) (qn_own (qn_lst (qa_nil)))) (qss_cons (qs_set (i := 3) sc_read_seen.nd rfl (by first | exact .inl rfl | exact .inr rfl) (qn_own (qn_lst (qa_nil)))) (qss_cons (qs_for PassesOwn.never rfl (qi_enumA rfl (by rfl) T.b_enumerate (qa_cons (qv 1) (qa_nil))) (qb_tup rfl (qbs_cons (qb_nm (i := 4) sc_read_seen.nd rfl (by first | exact .inl rfl | exact .inr rfl)) (qbs_cons (qb_nm (i := 5) sc_read_seen.nd rfl (by first | exact .inl rfl | exact .inr rfl)) (qbs_nil)))) (qss_one (qs_for PassesOwn.never rfl (qi_enumS rfl (by rfl) T.b_enumerate (qa_cons (qv 5) (qa_nil))) (qb_tup rfl (qbs_cons (qb_nm (i := 6) sc_read_seen.nd rfl (by first | exact .inl rfl | exact .inr rfl)) (qbs_cons (qb_nm (i := 7) sc_read_seen.nd rfl (by first | exact .inl rfl | exact .inr rfl)) (qbs_nil)))) (qss_one (qs_if (qt_cmp (oq_neS hr.units) (qv 7) (qe_str)) (qss_cons (qs_expr (qe_append (qv 2) (qe_tup (qa_cons (qv 4) (qa_cons (qv 6) (qa_nil)))))) (qss_one (qs_expr (qe_append (qv 3) (qe_if (qt_cmp (oq_eqS hr.units) (qv 7) (qe_str)) (qe_non) (qe_sidx (qe_gl T.c_SIGNS (by rfl)) (qv 7))))))) (qss_nil)))))) (qss_one (qs_ret (qe_tup (qa_cons (qe_call (ok_checked_cells T) (hr.mono (by decide)) (by rfl) (qa_cons (qv 2) (qa_cons (qv 1) (qa_nil)))) (qa_cons (qe_ty cq_tuple (by rfl) T.b_tuple (by decide +kernel) (qa_cons (qv 3) (qa_nil))) (qa_nil)))))))))
theorem rd_read_seen : ∀ ds S Q, sp_read_seen ds S Q → t_read_seen { nx := fun _ S' => Fin3 S Q (.p .none) S', rt := Fin3 S Q } (env0 8 ds) S := by
  rintro _ S Q ⟨w, P, rfl, A, K, q⟩
  have AG := A.grd
  have hcl := K.le
  rw [List.length_map] at hcl
  unfold t_read_seen sp_picture_rows sp_checked_cells
  rw [show Str.ofString "0123456789abcdefghijklmnopqrstuvwxyz" = SG from rfl]
  walk_at "rd"
  refine ⟨by rw [SG_len]; decide, w, picG P, _, rfl, AG, fun r hr c hc => ?_, ?_⟩
  · obtain ⟨z, hz, rfl⟩ := List.mem_map.mp hr
    obtain ⟨o, ho, rfl⟩ := List.mem_map.mp hc
    exact pcT_in fun x e => A.sg z hz x (e ▸ ho)
  have hle : ∀ i, i ≤ P.length → (allC P i).length ≤ 1600 := fun i hi => Nat.le_trans (allC_le A i hi) (Nat.mul_le_mul (Nat.le_trans hi A.h40) A.w40)
  have k0 : ∀ a b : Option O3, (S ++ [a] ++ [b])[S.length]? = some a := fun a b => by simp
  have k1 : ∀ a b : Option O3, (S ++ [a] ++ [b])[S.length + 1]? = some b := fun a b => by rw [List.append_assoc, List.getElem?_append_right (by omega), Nat.add_sub_cancel_left]; rfl
  have k2 : ∀ a b d : Option O3, (S ++ [a] ++ [b]).set S.length d = S ++ [d] ++ [b] := fun a b d => by simp
  have k3 : ∀ a b d : Option O3, (S ++ [a] ++ [b]).set (S.length + 1) d = S ++ [a] ++ [d] := fun a b d => by rw [List.append_assoc, List.set_append_right _ _ (by omega), Nat.add_sub_cancel_left]; simp
  have hL1 : ∀ x : Option O3, (S ++ [x]).length = S.length + 1 := fun x => by simp
  simp only [hL1]
  refine ⟨fun i e s => i ≤ P.length ∧ ∃ z4 z5 z6 z7 : Option D, e = [some (.p (.str (gridT (picG P)))), some (.p (.list (((picG P).map gT).map PyData.str))), some (.loc S.length), some (.loc (S.length + 1)), z4, z5, z6, z7] ∧ s = S ++ [some (.lst (((allC P i).map (·.1)).map pD))] ++ [some (.lst (((allC P i).map (·.2)).map optN))], ⟨Nat.zero_le _, none, none, none, none, rfl, rfl⟩, fun _ _ _ _ => trivial, ?_, ?_⟩
  · rintro i x e s hx ⟨hi, z4, z5, z6, z7, rfl, rfl⟩
    obtain ⟨d, hd, rfl⟩ := enum3_get hx
    rw [List.getElem?_map, List.getElem?_map] at hd
    obtain ⟨y, hy, rfl⟩ := Option.map_eq_some_iff.mp hd
    obtain ⟨g, hg, rfl⟩ := Option.map_eq_some_iff.mp hy
    unfold picG at hg
    rw [List.getElem?_map] at hg
    obtain ⟨r, hr, rfl⟩ := Option.map_eq_some_iff.mp hg
    have hil := (List.getElem?_eq_some_iff.mp hr).1
    have hrl := A.wd r (List.mem_of_getElem? hr)
    have hsg := A.sg r (List.mem_of_getElem? hr)
    have hgl : (gT (r.map pcT)).length = w := by rw [gT_len, List.length_map, hrl]
    have hw := A.w40
    have hb := hle (i + 1) (by omega)
    rw [allC_succ hr, List.length_append] at hb
    unfold t_read_seen_b1
    walk_at "rd"
    refine ⟨by omega, fun j e s => ∃ z6 z7 : Option D, j ≤ r.length ∧ e = [some (.p (.str (gridT (picG P)))), some (.p (.list (((picG P).map gT).map PyData.str))), some (.loc S.length), some (.loc (S.length + 1)), some (.p (.int (i : Nat))), some (.p (.str (gT (r.map pcT)))), z6, z7] ∧ s = S ++ [some (.lst (((allC P i ++ rowC i r j).map (·.1)).map pD))] ++ [some (.lst (((allC P i ++ rowC i r j).map (·.2)).map optN))], ⟨_, _, Nat.zero_le _, rfl, by rw [show rowC i r 0 = [] from rfl, List.append_nil]⟩, fun _ _ _ _ => trivial, ?_, ?_⟩
    · rintro j x e s hx ⟨z6, z7, _, rfl, rfl⟩
      obtain ⟨d, hd, rfl⟩ := enum3_get hx
      unfold sgs at hd
      rw [List.getElem?_map] at hd
      obtain ⟨c, hc, rfl⟩ := Option.map_eq_some_iff.mp hd
      have hc : (r.map pcT)[j]? = some c := hc
      rw [List.getElem?_map] at hc
      obtain ⟨o, ho, rfl⟩ := Option.map_eq_some_iff.mp hc
      have hjl := (List.getElem?_eq_some_iff.mp ho).1
      have hb2 := rowC_le i r j
      have hlen : ((allC P i ++ rowC i r j).map (·.1)).length < 16777216 := by rw [List.length_map, List.length_append]; omega
      have hlen2 : ((allC P i ++ rowC i r j).map (·.2)).length < 16777216 := by rw [List.length_map, List.length_append]; omega
      unfold t_read_seen_b2
      rw [show Str.ofString "0123456789abcdefghijklmnopqrstuvwxyz" = SG from rfl]
      walk_at "rd"
      rw [dot_eq, qm_eq]
      match o, ho with
      | none, ho =>
        rw [if_neg (fun h => h rfl)]
        exact wk_self ⟨_, _, by omega, rfl, by rw [rowC_non ho]⟩
      | some none, ho =>
        rw [if_pos (one_ne (show pcT (some none) ≠ 46 by decide))]
        simp only [k0, k1, k2, k3]
        rw [if_pos (show (⟨#[pcT (some none)]⟩ : Str) = ⟨#[63]⟩ from rfl)]
        refine ⟨by rw [List.length_map]; exact hlen, by rw [List.length_map]; exact hlen2, wk_self ⟨_, _, by omega, rfl, ?_⟩⟩
        rw [rowC_som ho]
        simp only [List.map_append, List.append_assoc]
        rfl
      | some (some x), ho =>
        have hx36 := hsg x (List.mem_of_getElem? ho)
        have hf := sig_free x hx36
        rw [if_pos (one_ne (show pcT (some (some x)) ≠ 46 from hf.2.2))]
        simp only [k0, k1, k2, k3]
        rw [if_neg (one_ne (show pcT (some (some x)) ≠ 63 from hf.2.1))]
        have hi : (Builtin.Str.occurrences SG ⟨#[pcT (some (some x))]⟩ 0 SG.length 1).head? = some x := sig_idx x hx36
        refine ⟨by rw [List.length_map]; exact hlen, ?_⟩
        split
        · rename_i k rest hk
          rw [hk] at hi
          cases hi
          refine ⟨by rw [List.length_map]; exact hlen2, wk_self ⟨_, _, by omega, rfl, ?_⟩⟩
          rw [rowC_som ho]
          simp only [List.map_append, List.append_assoc]
          rfl
        · rename_i hk
          rw [hk] at hi
          cases hi
    · rintro e s ⟨z6, z7, _, rfl, rfl⟩
      have hsl : (enum3 (sgs (gT (r.map pcT)))).length = r.length := by
        rw [enum3_len]
        unfold sgs
        rw [List.length_map]
        exact (List.length_map _)
      rw [hsl, ← allC_succ hr]
      exact wk_self ⟨by omega, _, _, _, _, rfl, rfl⟩
  · rintro e s ⟨hi, z4, z5, z6, z7, rfl, rfl⟩
    have hel : (enum3 (((picG P).map gT).map PyData.str)).length = P.length := by
      unfold picG
      rw [enum3_len, List.length_map, List.length_map, List.length_map]
    rw [hel]
    walk_at "rd"
    have hRl : ((picG P).map gT).length = P.length := by unfold picG; rw [List.length_map, List.length_map]
    refine ⟨S.length, w, _, (picG P).map gT, rfl, k0 _ _, fun z => ?_, fun x hx => ?_, by rw [hRl]; exact A.h40, A.w40, by rw [hRl]; exact K, ?_⟩
    · have := congrArg List.length z
      rw [hRl] at this
      exact A.hi (List.eq_nil_of_length_eq_zero this)
    · obtain ⟨g, hg, rfl⟩ := List.mem_map.mp hx
      rw [gT_len]
      exact AG.wd g hg
    simp only [k1]
    rw [List.append_assoc]
    exact fin_app q
theorem ok_read_seen (T : Txt K mg base) : Ok3 P w K mg base 2 "read_seen" sp_read_seen := by
  obtain ⟨f, fd, F, hm, hb⟩ := T.f_read_seen
  exact Ok3.mk' F hm hb sc_read_seen (fun ds S Q h => by simp only [sp_read_seen] at h; first | (obtain ⟨rfl, _⟩ := h; rfl) | (obtain ⟨_, rfl, _⟩ := h; rfl) | (obtain ⟨_, _, rfl, _⟩ := h; rfl) | (obtain ⟨_, _, _, rfl, _⟩ := h; rfl) | (obtain ⟨_, _, _, _, rfl, _⟩ := h; rfl) | (obtain ⟨_, _, _, _, _, rfl, _⟩ := h; rfl) | (obtain ⟨_, _, _, _, _, _, rfl, _⟩ := h; rfl) | (obtain ⟨_, _, _, _, _, _, _, rfl, _⟩ := h; rfl) | (obtain ⟨_, _, _, _, _, _, _, _, rfl, _⟩ := h; rfl) | (obtain ⟨_, _, _, _, _, _, _, _, _, rfl, _⟩ := h; rfl) | (obtain ⟨_, _, _, _, _, _, _, _, _, _, rfl, _⟩ := h; rfl) | exact h.2) (fun cdv A outer s H E hr => dv_read_seen T hr) rd_read_seen
def sp_read_shape : Sp3 := fun ds S Q => ∃ (w : Nat) (P : PicL), ds = [.p (.str (gridT (hashG P)))] ∧ Pic w P ∧ CkC P.length w ((allC P P.length).map (·.1)) ∧ Q (.p (csD ((allC P P.length).map (·.1)))) S
def t_read_shape_b1 : TS3 := tDrop3 (tExt3 (tVar3 2) (tLc3 (tRng1 (tCons3 (tCB3 (rLenA3) (tCons3 (tVar3 4) (tNil3))) (tNil3))) (.nm 5) (tTest3 (tOp3 rEqS3 (tOp3 rIx3 (tVar3 4) (tVar3 5)) (tC3 (.str (PySem.Str.ofString "#"))))) (tTup3 (tCons3 (tVar3 3) (tCons3 (tVar3 5) (tNil3)))) [5]))
def t_read_shape : TS3 := tSeq3 (tSet3 1 (tCB3 sp_picture_rows (tCons3 (tVar3 0) (tCons3 (tC3 (.str (PySem.Str.ofString "#."))) (tNil3))))) (tSeq3 (tSet3 2 (tOwn (tLst3 (tNil3)))) (tSeq3 (tFor3 (tEnumA3 (tCons3 (tVar3 1) (tNil3))) (.tup (.cons (.nm 3) (.cons (.nm 4) (.nil)))) (t_read_shape_b1)) (tRet3 (tCB3 sp_checked_cells (tCons3 (tVar3 2) (tCons3 (tVar3 1) (tNil3)))))))
theorem dv_read_shape (T : Txt K mg base) {f : Addr} {cdv : Value} {A : Around} {outer : List Env} {s : Shared} {H : Hp} {E : XK} (hr : Room 1 (A.deeper (envOfC "read_shape" (defScope s_read_shape) s.heap.objs.size f cdv))) : QSs (cxOf CX0 P w K mg base nm_read_shape "read_shape" (defScope s_read_shape) f cdv A outer s H E).nox (defBody s_read_shape) t_read_shape :=
  qss_cons (qs_set (i := 1) sc_read_shape.nd rfl (by first | exact .inl rfl | exact .inr rfl) (qe_call (ok_picture_rows T) (hr.mono (by decide)) (by rfl) (qa_cons (qv 0) (qa_cons (qe_str) (qa_nil))))) (qss_cons (qs_set (i := 2) sc_read_shape.nd rfl (by first | exact .inl rfl | exact .inr rfl) (qn_own (qn_lst (qa_nil)))) (qss_cons (qs_for PassesOwn.never rfl (qi_enumA rfl (by rfl) T.b_enumerate (qa_cons (qv 1) (qa_nil))) (qb_tup rfl (qbs_cons (qb_nm (i := 3) sc_read_shape.nd rfl (by first | exact .inl rfl | exact .inr rfl)) (qbs_cons (qb_nm (i := 4) sc_read_shape.nd rfl (by first | exact .inl rfl | exact .inr rfl)) (qbs_nil)))) (qss_one (qs_expr (qe_extend (qv 2) (qn_lc (own := [("j", 5)]) rfl sc_read_shape.nd (qi_range1 (by rfl) T.b_range (qa_cons (qe_cb cq_lenA (by rfl) T.b_len (by decide +kernel) (qa_cons (qv 4) (qa_nil))) (qa_nil))) (blkOk_by (own := [("j", 5)]) (N := nm_read_shape) (sc := defScope s_read_shape) (by decide +kernel)) (fun _ _ _ _ _ => qb_nm (i := 5) sc_read_shape.nd rfl (by first | exact .inl rfl | exact .inr rfl)) (fun _ _ _ _ _ => qts_one (qt_cmp (oq_eqS hr.units) (qe_ix iq_seq (qv 4) (qv 5)) (qe_str))) (fun _ _ _ _ _ => qe_tup (qa_cons (qv 3) (qa_cons (qv 5) (qa_nil))))))))) (qss_one (qs_ret (qe_call (ok_checked_cells T) (hr.mono (by decide)) (by rfl) (qa_cons (qv 2) (qa_cons (qv 1) (qa_nil))))))))
theorem rd_read_shape : ∀ ds S Q, sp_read_shape ds S Q → t_read_shape { nx := fun _ S' => Fin3 S Q (.p .none) S', rt := Fin3 S Q } (env0 6 ds) S := by
  rintro _ S Q ⟨w, P, rfl, A, K, q⟩
  have AG := A.hash
  have hcl := K.le
  rw [List.length_map] at hcl
  unfold t_read_shape sp_picture_rows sp_checked_cells
  walk_at "rd"
  refine ⟨w, hashG P, _, rfl, AG, fun r hr c hc => ?_, ?_⟩
  · obtain ⟨z, hz, rfl⟩ := List.mem_map.mp hr
    obtain ⟨o, ho, rfl⟩ := List.mem_map.mp hc
    cases o with
    | none => decide +kernel
    | some v =>
      show 35 ∈ _
      decide +kernel
  have hle : ∀ i, i ≤ P.length → (allC P i).length ≤ 1600 := fun i hi => Nat.le_trans (allC_le A i hi) (Nat.mul_le_mul (Nat.le_trans hi A.h40) A.w40)
  have k0 : ∀ a : Option O3, (S ++ [a])[S.length]? = some a := fun a => by simp
  have k2 : ∀ a d : Option O3, (S ++ [a]).set S.length d = S ++ [d] := fun a d => by simp
  refine ⟨fun i e s => i ≤ P.length ∧ ∃ z3 z4 z5 : Option D, e = [some (.p (.str (gridT (hashG P)))), some (.p (.list (((hashG P).map gT).map PyData.str))), some (.loc S.length), z3, z4, none] ∧ s = S ++ [some (.lst (((allC P i).map (·.1)).map pD))], ⟨Nat.zero_le _, none, none, none, rfl, rfl⟩, fun _ _ _ _ => trivial, ?_, ?_⟩
  · rintro i x e s hx ⟨hi, z3, z4, z5, rfl, rfl⟩
    obtain ⟨d, hd, rfl⟩ := enum3_get hx
    rw [List.getElem?_map, List.getElem?_map] at hd
    obtain ⟨y, hy, rfl⟩ := Option.map_eq_some_iff.mp hd
    obtain ⟨g, hg, rfl⟩ := Option.map_eq_some_iff.mp hy
    unfold hashG at hg
    rw [List.getElem?_map] at hg
    obtain ⟨r, hr, rfl⟩ := Option.map_eq_some_iff.mp hg
    have hil := (List.getElem?_eq_some_iff.mp hr).1
    have hrl := A.wd r (List.mem_of_getElem? hr)
    have hgl : (gT (r.map hcT)).length = r.length := by rw [gT_len, List.length_map]
    have hw := A.w40
    have hb := hle (i + 1) (by omega)
    rw [allC_succ hr, List.length_append] at hb
    unfold t_read_shape_b1
    walk_at "rd"
    simp only [k0]
    rw [hgl]
    refine ⟨by omega, ⟨by omega, by omega⟩, fun j acc s => s = S ++ [some (.lst (((allC P i).map (·.1)).map pD))] ∧ acc = ((rowC i r j).map (·.1)).map pD, ⟨rfl, rfl⟩, fun _ _ _ _ => trivial, ?_, ?_⟩
    · rintro j x acc s hx ⟨rfl, rfl⟩
      obtain ⟨hj, rfl⟩ := rng_get hx
      have hj : j < r.length := by omega
      obtain ⟨o, ho⟩ : ∃ o, r[j]? = some o := ⟨_, List.getElem?_eq_getElem hj⟩
      have hat : atI (gT (r.map hcT)).cps.toList (0 + ((j : Nat) : Int)) = some (hcT o) := by
        rw [Int.zero_add]
        refine atI_nat ?_
        show (r.map hcT)[j]? = _
        rw [List.getElem?_map, ho]
        rfl
      simp only [hat]
      refine ⟨by omega, ?_⟩
      rw [hash_eq, Int.zero_add]
      cases o with
      | none =>
        rw [if_neg (one_ne (show hcT none ≠ 35 by decide))]
        exact ⟨trivial, by rw [rowC_non ho]⟩
      | some v =>
        rw [if_pos (show (⟨#[hcT (some v)]⟩ : Str) = ⟨#[35]⟩ from rfl)]
        refine ⟨trivial, ?_⟩
        rw [rowC_som ho, List.map_append, List.map_append]
        rfl
    · rintro acc s ⟨rfl, rfl⟩
      rw [rng_len, Int.toNat_natCast]
      simp only [k0, k2]
      refine ⟨by simp only [List.length_map]; omega, wk_self ⟨by omega, _, _, none, rfl, ?_⟩⟩
      rw [allC_succ hr, List.map_append, List.map_append]
  · rintro e s ⟨hi, z3, z4, z5, rfl, rfl⟩
    have hel : (enum3 (((hashG P).map gT).map PyData.str)).length = P.length := by
      unfold hashG
      rw [enum3_len, List.length_map, List.length_map, List.length_map]
    rw [hel]
    walk_at "rd"
    have hRl : ((hashG P).map gT).length = P.length := by unfold hashG; rw [List.length_map, List.length_map]
    refine ⟨S.length, w, _, (hashG P).map gT, rfl, k0 _, fun z => ?_, fun x hx => ?_, by rw [hRl]; exact A.h40, A.w40, by rw [hRl]; exact K, ?_⟩
    · have := congrArg List.length z
      rw [hRl] at this
      exact A.hi (List.eq_nil_of_length_eq_zero this)
    · obtain ⟨g, hg, rfl⟩ := List.mem_map.mp hx
      rw [gT_len]
      exact AG.wd g hg
    exact fin_app q
theorem ok_read_shape (T : Txt K mg base) : Ok3 P w K mg base 2 "read_shape" sp_read_shape := by
  obtain ⟨f, fd, F, hm, hb⟩ := T.f_read_shape
  exact Ok3.mk' F hm hb sc_read_shape (fun ds S Q h => by simp only [sp_read_shape] at h; first | (obtain ⟨rfl, _⟩ := h; rfl) | (obtain ⟨_, rfl, _⟩ := h; rfl) | (obtain ⟨_, _, rfl, _⟩ := h; rfl) | (obtain ⟨_, _, _, rfl, _⟩ := h; rfl) | (obtain ⟨_, _, _, _, rfl, _⟩ := h; rfl) | (obtain ⟨_, _, _, _, _, rfl, _⟩ := h; rfl) | (obtain ⟨_, _, _, _, _, _, rfl, _⟩ := h; rfl) | (obtain ⟨_, _, _, _, _, _, _, rfl, _⟩ := h; rfl) | (obtain ⟨_, _, _, _, _, _, _, _, rfl, _⟩ := h; rfl) | (obtain ⟨_, _, _, _, _, _, _, _, _, rfl, _⟩ := h; rfl) | (obtain ⟨_, _, _, _, _, _, _, _, _, _, rfl, _⟩ := h; rfl) | exact h.2) (fun cdv A outer s H E hr => dv_read_shape T hr) rd_read_shape
def sp_size : Sp3 := fun ds S Q => ∃ (M w : Nat) (rows : List (List Int)), ds = [.p (flo rows)] ∧ Flo M w rows ∧ Q (.p (.tuple [.int (rows.length : Nat), .int (w : Nat)])) S
def t_size : TS3 := tRet3 (tTup3 (tCons3 (tCB3 (rLenA3) (tCons3 (tVar3 0) (tNil3))) (tCons3 (tCB3 (rLenA3) (tCons3 (tOp3 rIx3 (tVar3 0) (tC3 (.int 0))) (tNil3))) (tNil3))))
theorem dv_size (T : Txt K mg base) {f : Addr} {cdv : Value} {A : Around} {outer : List Env} {s : Shared} {H : Hp} {E : XK} (hr : Room 0 (A.deeper (envOfC "size" (defScope s_size) s.heap.objs.size f cdv))) : QSs (cxOf CX0 P w K mg base nm_size "size" (defScope s_size) f cdv A outer s H E).nox (defBody s_size) t_size :=
  qss_one (qs_ret (qe_tup (qa_cons (qe_cb cq_lenA (by rfl) T.b_len (by decide +kernel) (qa_cons (qv 0) (qa_nil))) (qa_cons (qe_cb cq_lenA (by rfl) T.b_len (by decide +kernel) (qa_cons (qe_ix iq_seq (qv 0) (qe_int)) (qa_nil))) (qa_nil)))))
theorem rd_size : ∀ ds S Q, sp_size ds S Q → t_size { nx := fun _ S' => Fin3 S Q (.p .none) S', rt := Fin3 S Q } (env0 1 ds) S := by
  rintro _ S Q ⟨M, w, rows, rfl, F, q⟩
  have h0 := F.hi
  have e0 : (rows.map tupI)[0]? = some (tupI rows[0]) := by rw [List.getElem?_map, List.getElem?_eq_getElem F.hi]; rfl
  have hr0 := F.row F.hi
  unfold t_size flo
  walk_at "rd"
  simp only [e0, tupI]
  walk_at "rd"
  rw [hr0]
  exact fin_p q
theorem ok_size (T : Txt K mg base) : Ok3 P w K mg base 1 "size" sp_size := by
  obtain ⟨f, fd, F, hm, hb⟩ := T.f_size
  exact Ok3.mk' F hm hb sc_size (fun ds S Q h => by simp only [sp_size] at h; first | (obtain ⟨rfl, _⟩ := h; rfl) | (obtain ⟨_, rfl, _⟩ := h; rfl) | (obtain ⟨_, _, rfl, _⟩ := h; rfl) | (obtain ⟨_, _, _, rfl, _⟩ := h; rfl) | (obtain ⟨_, _, _, _, rfl, _⟩ := h; rfl) | (obtain ⟨_, _, _, _, _, rfl, _⟩ := h; rfl) | (obtain ⟨_, _, _, _, _, _, rfl, _⟩ := h; rfl) | (obtain ⟨_, _, _, _, _, _, _, rfl, _⟩ := h; rfl) | (obtain ⟨_, _, _, _, _, _, _, _, rfl, _⟩ := h; rfl) | (obtain ⟨_, _, _, _, _, _, _, _, _, rfl, _⟩ := h; rfl) | (obtain ⟨_, _, _, _, _, _, _, _, _, _, rfl, _⟩ := h; rfl) | exact h.2) (fun cdv A outer s H E hr => dv_size T hr) rd_size
def sp_all_places : Sp3 := fun ds S Q => ∃ (M w : Nat) (rows : List (List Int)), ds = [.p (flo rows)] ∧ Flo M w rows ∧ M ≤ 900 ∧ Q (.p (.list ((places rows.length w).map pl))) S
def t_all_places : TS3 := tSeq3 (tAsgT3 (tCB3 sp_size (tCons3 (tVar3 0) (tNil3))) (.tup (.cons (.nm 1) (.cons (.nm 2) (.nil))))) (tSeq3 (tSet3 3 (tOwn (tLst3 (tNil3)))) (tSeq3 (tFor3 (tRng1 (tCons3 (tVar3 1) (tNil3))) (.nm 4) (tDrop3 (tExt3 (tVar3 3) (tLc3 (tRng1 (tCons3 (tVar3 2) (tNil3))) (.nm 5) (tYes3) (tTup3 (tCons3 (tVar3 4) (tCons3 (tVar3 5) (tNil3)))) [5])))) (tFrz3 3 (tRet3 (tVar3 3)))))
theorem dv_all_places (T : Txt K mg base) {f : Addr} {cdv : Value} {A : Around} {outer : List Env} {s : Shared} {H : Hp} {E : XK} (hr : Room 1 (A.deeper (envOfC "all_places" (defScope s_all_places) s.heap.objs.size f cdv))) : QSs (cxOf CX0 P w K mg base nm_all_places "all_places" (defScope s_all_places) f cdv A outer s H E).nox (defBody s_all_places) t_all_places :=
  qss_cons (qs_asgT (qe_call (ok_size T) (hr.mono (by decide)) (by rfl) (qa_cons (qv 0) (qa_nil))) (qb_tup rfl (qbs_cons (qb_nm (i := 1) sc_all_places.nd rfl (by first | exact .inl rfl | exact .inr rfl)) (qbs_cons (qb_nm (i := 2) sc_all_places.nd rfl (by first | exact .inl rfl | exact .inr rfl)) (qbs_nil))))) (qss_cons (qs_set (i := 3) sc_all_places.nd rfl (by first | exact .inl rfl | exact .inr rfl) (qn_own (qn_lst (qa_nil)))) (qss_cons (qs_for PassesOwn.never rfl (qi_range1 (by rfl) T.b_range (qa_cons (qv 1) (qa_nil))) (qb_nm (i := 4) sc_all_places.nd rfl (by first | exact .inl rfl | exact .inr rfl)) (qss_one (qs_expr (qe_extend (qv 3) (qn_lc (own := [("c", 5)]) rfl sc_all_places.nd (qi_range1 (by rfl) T.b_range (qa_cons (qv 2) (qa_nil))) (blkOk_by (own := [("c", 5)]) (N := nm_all_places) (sc := defScope s_all_places) (by decide +kernel)) (fun _ _ _ _ _ => qb_nm (i := 5) sc_all_places.nd rfl (by first | exact .inl rfl | exact .inr rfl)) (fun _ _ _ _ _ => qts_nil) (fun _ _ _ _ _ => qe_tup (qa_cons (qv 4) (qa_cons (qv 5) (qa_nil))))))))) (qss_frz 3 (qss_one (qs_ret (qv 3))))))
theorem rd_all_places : ∀ ds S Q, sp_all_places ds S Q → t_all_places { nx := fun _ S' => Fin3 S Q (.p .none) S', rt := Fin3 S Q } (env0 6 ds) S := by
  rintro _ S Q ⟨M, w, rows, rfl, F, hM, q⟩
  have hh := F.h_le
  have hw := F.w_le
  have har := F.ar
  unfold t_all_places sp_size
  walk_at "rd"
  refine ⟨M, w, rows, rfl, F, ?_⟩
  walk_at "rd"
  refine ⟨by omega, fun i e s => ∃ z4 z5 : Option D, i ≤ rows.length ∧ e = [some (.p (flo rows)), some (.p (.int (rows.length : Nat))), some (.p (.int (w : Nat))), some (.loc S.length), z4, z5] ∧ s = S ++ [some (.lst ((places i w).map pl))], ⟨none, none, by omega, rfl, rfl⟩, fun _ _ _ _ => trivial, ?_, ?_⟩
  · rintro i d e s hi ⟨z4, z5, _, rfl, rfl⟩
    obtain ⟨hi, rfl⟩ := rng_get hi
    have hi' : i < rows.length := by omega
    walk_at "rd"
    simp only [List.getElem?_append_right (Nat.le_refl _), Nat.sub_self, List.getElem?_cons_zero]
    walk_at "rd"
    refine ⟨by omega, fun j acc s => s = S ++ [some (.lst ((places i w).map pl))] ∧ acc = (List.range j).map fun c => pl (i, c), ⟨rfl, rfl⟩, fun _ _ _ _ => trivial, ?_, ?_⟩
    · rintro j d acc s hj ⟨rfl, rfl⟩
      obtain ⟨hj, rfl⟩ := rng_get hj
      walk_at "rd"
      rw [List.range_succ, List.map_append]
      simp [pl]
    · rintro acc s ⟨rfl, rfl⟩
      rw [rng_len]
      have hwn : ((w : Nat) : Int).toNat = w := Int.toNat_natCast w
      rw [hwn]
      simp only [List.getElem?_append_right (Nat.le_refl _), Nat.sub_self, List.getElem?_cons_zero]
      have hub : (i + 1) * w ≤ 900 := Nat.le_trans (Nat.mul_le_mul_right w hi') (Nat.le_trans har hM)
      rw [Nat.add_mul, Nat.one_mul] at hub
      refine ⟨by rw [List.length_map, places_len, List.length_map, List.length_range]; omega, wk_self ⟨_, _, by omega, rfl, ?_⟩⟩
      rw [places_succ, List.map_append, List.map_map]
      simp
  · rintro e s ⟨z4, z5, _, rfl, rfl⟩
    rw [rng_len]
    have hwn : ((rows.length : Nat) : Int).toNat = rows.length := Int.toNat_natCast _
    unfold tFrz3
    walk_at "rd"
    simp only [List.getElem?_append_right (Nat.le_refl _), Nat.sub_self, List.getElem?_cons_zero]
    refine ⟨_, rfl, ?_⟩
    walk_at "rd"
    rw [hwn]
    exact fin_of (by simp) q
theorem ok_all_places (T : Txt K mg base) : Ok3 P w K mg base 2 "all_places" sp_all_places := by
  obtain ⟨f, fd, F, hm, hb⟩ := T.f_all_places
  exact Ok3.mk' F hm hb sc_all_places (fun ds S Q h => by simp only [sp_all_places] at h; first | (obtain ⟨rfl, _⟩ := h; rfl) | (obtain ⟨_, rfl, _⟩ := h; rfl) | (obtain ⟨_, _, rfl, _⟩ := h; rfl) | (obtain ⟨_, _, _, rfl, _⟩ := h; rfl) | (obtain ⟨_, _, _, _, rfl, _⟩ := h; rfl) | (obtain ⟨_, _, _, _, _, rfl, _⟩ := h; rfl) | (obtain ⟨_, _, _, _, _, _, rfl, _⟩ := h; rfl) | (obtain ⟨_, _, _, _, _, _, _, rfl, _⟩ := h; rfl) | (obtain ⟨_, _, _, _, _, _, _, _, rfl, _⟩ := h; rfl) | (obtain ⟨_, _, _, _, _, _, _, _, _, rfl, _⟩ := h; rfl) | (obtain ⟨_, _, _, _, _, _, _, _, _, _, rfl, _⟩ := h; rfl) | exact h.2) (fun cdv A outer s H E hr => dv_all_places T hr) rd_all_places
def sp_sign_at : Sp3 := fun ds S Q => ∃ (M w : Nat) (rows : List (List Int)) (r c : Int), ds = [.p (flo rows), .p (.int r), .p (.int c)] ∧ Flo M w rows ∧ Q (.p (.int (cellI w rows r c))) S
def t_sign_at : TS3 := tSeq3 (tSet3 3 (tOp3 rIx3 (tVar3 0) (tOp3 rMod3 (tVar3 1) (tCB3 (rLenA3) (tCons3 (tVar3 0) (tNil3)))))) (tRet3 (tOp3 rIx3 (tVar3 3) (tOp3 rMod3 (tVar3 2) (tCB3 (rLenA3) (tCons3 (tVar3 3) (tNil3))))))
theorem dv_sign_at (T : Txt K mg base) {f : Addr} {cdv : Value} {A : Around} {outer : List Env} {s : Shared} {H : Hp} {E : XK} (hr : Room 0 (A.deeper (envOfC "sign_at" (defScope s_sign_at) s.heap.objs.size f cdv))) : QSs (cxOf CX0 P w K mg base nm_sign_at "sign_at" (defScope s_sign_at) f cdv A outer s H E).nox (defBody s_sign_at) t_sign_at :=
  qss_cons (qs_set (i := 3) sc_sign_at.nd rfl (by first | exact .inl rfl | exact .inr rfl) (qe_ix iq_seq (qv 0) (qe_op oq_mod (qv 1) (qe_cb cq_lenA (by rfl) T.b_len (by decide +kernel) (qa_cons (qv 0) (qa_nil)))))) (qss_one (qs_ret (qe_ix iq_seq (qv 3) (qe_op oq_mod (qv 2) (qe_cb cq_lenA (by rfl) T.b_len (by decide +kernel) (qa_cons (qv 3) (qa_nil)))))))
theorem rd_sign_at : ∀ ds S Q, sp_sign_at ds S Q → t_sign_at { nx := fun _ S' => Fin3 S Q (.p .none) S', rt := Fin3 S Q } (env0 4 ds) S := by
  rintro _ S Q ⟨M, w, rows, r, c, rfl, F, q⟩
  obtain ⟨p, x, e1, hp, e2, rfl, _⟩ := F.cell r c
  have h0 := F.hi
  have w0 := F.wp
  unfold t_sign_at flo
  walk_at "rd"
  simp only [e1, tupI]
  refine ⟨by omega, ?_⟩
  walk_at "rd"
  rw [hp, e2]
  exact ⟨by omega, fin_p q⟩
theorem ok_sign_at (T : Txt K mg base) : Ok3 P w K mg base 1 "sign_at" sp_sign_at := by
  obtain ⟨f, fd, F, hm, hb⟩ := T.f_sign_at
  exact Ok3.mk' F hm hb sc_sign_at (fun ds S Q h => by simp only [sp_sign_at] at h; first | (obtain ⟨rfl, _⟩ := h; rfl) | (obtain ⟨_, rfl, _⟩ := h; rfl) | (obtain ⟨_, _, rfl, _⟩ := h; rfl) | (obtain ⟨_, _, _, rfl, _⟩ := h; rfl) | (obtain ⟨_, _, _, _, rfl, _⟩ := h; rfl) | (obtain ⟨_, _, _, _, _, rfl, _⟩ := h; rfl) | (obtain ⟨_, _, _, _, _, _, rfl, _⟩ := h; rfl) | (obtain ⟨_, _, _, _, _, _, _, rfl, _⟩ := h; rfl) | (obtain ⟨_, _, _, _, _, _, _, _, rfl, _⟩ := h; rfl) | (obtain ⟨_, _, _, _, _, _, _, _, _, rfl, _⟩ := h; rfl) | (obtain ⟨_, _, _, _, _, _, _, _, _, _, rfl, _⟩ := h; rfl) | exact h.2) (fun cdv A outer s H E hr => dv_sign_at T hr) rd_sign_at
def sp_window : Sp3 := fun ds S Q => ∃ (M w : Nat) (rows cs : List (List Int)) (r c : Int), ds = [.p (flo rows), .p (shp cs), .p (.tuple [.int r, .int c])] ∧ Flo M w rows ∧ (∀ k ∈ cs, ∃ i j : Int, k = [i, j]) ∧ Q (.p (tupI (winI w rows cs r c))) S
def t_window : TS3 := tSeq3 (tAsgT3 (tVar3 2) (.tup (.cons (.nm 3) (.cons (.nm 4) (.nil))))) (tRet3 (tCB3 (rTupOf3) (tCons3 (tPure (tLc3 (tSeqI3 (tVar3 1)) (.tup (.cons (.nm 5) (.cons (.nm 6) (.nil)))) (tYes3) (tCB3 sp_sign_at (tCons3 (tVar3 0) (tCons3 (tOp3 rAdd3 (tVar3 3) (tVar3 5)) (tCons3 (tOp3 rAdd3 (tVar3 4) (tVar3 6)) (tNil3))))) [5, 6])) (tNil3))))
theorem dv_window (T : Txt K mg base) {f : Addr} {cdv : Value} {A : Around} {outer : List Env} {s : Shared} {H : Hp} {E : XK} (hr : Room 1 (A.deeper (envOfC "window" (defScope s_window) s.heap.objs.size f cdv))) : QSs (cxOf CX0 P w K mg base nm_window "window" (defScope s_window) f cdv A outer s H E).nox (defBody s_window) t_window :=
  qss_cons (qs_asgT (qv 2) (qb_tup rfl (qbs_cons (qb_nm (i := 3) sc_window.nd rfl (by first | exact .inl rfl | exact .inr rfl)) (qbs_cons (qb_nm (i := 4) sc_window.nd rfl (by first | exact .inl rfl | exact .inr rfl)) (qbs_nil))))) (qss_one (qs_ret (qe_ty cq_tuple (by rfl) T.b_tuple (by decide +kernel) (qa_cons (qn_pure (qn_lc (own := [("i", 5), ("j", 6)]) rfl sc_window.nd (qi_seq (qv 1)) (blkOk_by (own := [("i", 5), ("j", 6)]) (N := nm_window) (sc := defScope s_window) (by decide +kernel)) (fun _ _ _ _ _ => qb_tup rfl (qbs_cons (qb_nm (i := 5) sc_window.nd rfl (by first | exact .inl rfl | exact .inr rfl)) (qbs_cons (qb_nm (i := 6) sc_window.nd rfl (by first | exact .inl rfl | exact .inr rfl)) (qbs_nil)))) (fun _ _ _ _ _ => qts_nil) (fun _ _ _ _ _ => qe_call (ok_sign_at T) (hr.mono (by decide)) (by rfl) (qa_cons (qv 0) (qa_cons (qe_op oq_add (qv 3) (qv 5)) (qa_cons (qe_op oq_add (qv 4) (qv 6)) (qa_nil))))))) (qa_nil)))))
theorem rd_window : ∀ ds S Q, sp_window ds S Q → t_window { nx := fun _ S' => Fin3 S Q (.p .none) S', rt := Fin3 S Q } (env0 7 ds) S := by
  rintro _ S Q ⟨M, w, rows, cs, r, c, rfl, F, hc, q⟩
  unfold t_window sp_sign_at shp
  walk_at "rd"
  refine ⟨fun i acc s => s = S ∧ acc = (winI w rows (cs.take i) r c).map PyData.int, ⟨rfl, rfl⟩, fun _ _ _ _ => trivial, ?_, ?_⟩
  · rintro i x acc s hx ⟨rfl, rfl⟩
    rw [List.getElem?_map] at hx
    obtain ⟨k, hk, rfl⟩ := Option.map_eq_some_iff.mp hx
    obtain ⟨u, v, rfl⟩ := hc k (List.mem_of_getElem? hk)
    unfold tupI
    walk_at "rd"
    refine ⟨M, w, rows, _, _, rfl, F, ?_⟩
    unfold winI
    rw [pt_take_one hk, List.map_append, List.map_append]
    rfl
  · rintro acc s ⟨rfl, rfl⟩
    rw [List.take_length]
    walk_at "rd"
    exact fin_p q
theorem ok_window (T : Txt K mg base) : Ok3 P w K mg base 2 "window" sp_window := by
  obtain ⟨f, fd, F, hm, hb⟩ := T.f_window
  exact Ok3.mk' F hm hb sc_window (fun ds S Q h => by simp only [sp_window] at h; first | (obtain ⟨rfl, _⟩ := h; rfl) | (obtain ⟨_, rfl, _⟩ := h; rfl) | (obtain ⟨_, _, rfl, _⟩ := h; rfl) | (obtain ⟨_, _, _, rfl, _⟩ := h; rfl) | (obtain ⟨_, _, _, _, rfl, _⟩ := h; rfl) | (obtain ⟨_, _, _, _, _, rfl, _⟩ := h; rfl) | (obtain ⟨_, _, _, _, _, _, rfl, _⟩ := h; rfl) | (obtain ⟨_, _, _, _, _, _, _, rfl, _⟩ := h; rfl) | (obtain ⟨_, _, _, _, _, _, _, _, rfl, _⟩ := h; rfl) | (obtain ⟨_, _, _, _, _, _, _, _, _, rfl, _⟩ := h; rfl) | (obtain ⟨_, _, _, _, _, _, _, _, _, _, rfl, _⟩ := h; rfl) | exact h.2) (fun cdv A outer s H E hr => dv_window T hr) rd_window
def sp_fits : Sp3 := fun ds S Q => ∃ (M w : Nat) (rows cs : List (List Int)) (os : List (Option Int)) (r c : Int), ds = [.p (flo rows), .p (shp cs), .p (sen os), .p (.tuple [.int r, .int c])] ∧ Flo M w rows ∧ (∀ k ∈ cs, ∃ i j : Int, k = [i, j]) ∧ Q (.p (.bool (fitsB w rows cs os r c))) S
def t_fits : TS3 := tSeq3 (tAsgT3 (tVar3 3) (.tup (.cons (.nm 4) (.cons (.nm 5) (.nil))))) (tSeq3 (tFor3 (tZipI3 (tCons3 (tVar3 1) (tCons3 (tVar3 2) (tNil3)))) (.tup (.cons (.nm 6) (.cons (.nm 7) (.nil)))) (tIfS3 (tAnd3 (tTest3 (tOp3 rIsNot3 (tVar3 7) (tC3 .none))) (tTest3 (tOp3 rNeS3 (tCB3 sp_sign_at (tCons3 (tVar3 0) (tCons3 (tOp3 rAdd3 (tVar3 4) (tOp3 rIx3 (tVar3 6) (tC3 (.int 0)))) (tCons3 (tOp3 rAdd3 (tVar3 5) (tOp3 rIx3 (tVar3 6) (tC3 (.int 1)))) (tNil3))))) (tVar3 7)))) (tRet3 (tC3 (.bool false))) (tNext3))) (tRet3 (tC3 (.bool true))))
theorem dv_fits (T : Txt K mg base) {f : Addr} {cdv : Value} {A : Around} {outer : List Env} {s : Shared} {H : Hp} {E : XK} (hr : Room 1 (A.deeper (envOfC "fits" (defScope s_fits) s.heap.objs.size f cdv))) : QSs (cxOf CX0 P w K mg base nm_fits "fits" (defScope s_fits) f cdv A outer s H E).nox (defBody s_fits) t_fits :=
  qss_cons (qs_asgT (qv 3) (qb_tup rfl (qbs_cons (qb_nm (i := 4) sc_fits.nd rfl (by first | exact .inl rfl | exact .inr rfl)) (qbs_cons (qb_nm (i := 5) sc_fits.nd rfl (by first | exact .inl rfl | exact .inr rfl)) (qbs_nil))))) (qss_cons (qs_for PassesOwn.never rfl (qi_zip rfl (by rfl) T.b_zip (qa_cons (qv 1) (qa_cons (qv 2) (qa_nil)))) (qb_tup rfl (qbs_cons (qb_nm (i := 6) sc_fits.nd rfl (by first | exact .inl rfl | exact .inr rfl)) (qbs_cons (qb_nm (i := 7) sc_fits.nd rfl (by first | exact .inl rfl | exact .inr rfl)) (qbs_nil)))) (qss_one (qs_if (qt_w (qw_and (qt_cmp oq_isnot (qv 7) (qe_non)) (qw_and1 (qt_cmp (oq_neS hr.units) (qe_call (ok_sign_at T) (hr.mono (by decide)) (by rfl) (qa_cons (qv 0) (qa_cons (qe_op oq_add (qv 4) (qe_ix iq_seq (qv 6) (qe_int))) (qa_cons (qe_op oq_add (qv 5) (qe_ix iq_seq (qv 6) (qe_int))) (qa_nil))))) (qv 7))))) (qss_one (qs_ret (qe_bl))) (qss_nil)))) (qss_one (qs_ret (qe_bl))))
theorem rd_fits : ∀ ds S Q, sp_fits ds S Q → t_fits { nx := fun _ S' => Fin3 S Q (.p .none) S', rt := Fin3 S Q } (env0 8 ds) S := by
  rintro _ S Q ⟨M, w, rows, cs, os, r, c, rfl, F, hc, q⟩
  unfold t_fits sp_sign_at shp sen
  walk_at "rd"
  refine ⟨fun i e s => ∃ z6 z7 : Option D, s = S ∧ e = [some (.p (flo rows)), some (.p (.tuple (cs.map tupI))), some (.p (.tuple (os.map opt))), some (.p (.tuple [.int r, .int c])), some (.p (.int r)), some (.p (.int c)), z6, z7] ∧ ((cs.zip os).take i).all (fitF w rows r c) = true, ⟨none, none, rfl, rfl, rfl⟩, fun _ _ _ _ => trivial, ?_, ?_⟩
  · rintro i d e s hd ⟨z6, z7, rfl, rfl, hb⟩
    obtain ⟨a, b, h1, h2, rfl⟩ := zip3_at hd
    rw [List.getElem?_map] at h1 h2
    obtain ⟨k, hk, rfl⟩ := Option.map_eq_some_iff.mp h1
    obtain ⟨o, ho, rfl⟩ := Option.map_eq_some_iff.mp h2
    obtain ⟨u, v, rfl⟩ := hc k (List.mem_of_getElem? hk)
    have hz : (cs.zip os)[i]? = some ([u, v], o) := List.getElem?_zip_eq_some.mpr ⟨hk, ho⟩
    have hzt := all_take_succ (f := fitF w rows r c) hz
    rw [show tupI [u, v] = .tuple [.int u, .int v] from rfl]
    cases o with
    | none =>
      rw [show opt none = .none from rfl]
      walk_at "rd"
      exact wk_self ⟨_, _, rfl, rfl, by rw [hzt, hb]; rfl⟩
    | some x =>
      rw [show opt (some x) = .int x from rfl]
      walk_at "rd"
      refine ⟨M, w, rows, _, _, rfl, F, ?_⟩
      walk_at "rd"
      by_cases hx : cellI w rows (r + u) (c + v) = x
      · rw [if_neg (by simpa using hx)]
        exact wk_self ⟨_, _, rfl, rfl, by rw [hzt, hb]; exact decide_eq_true hx⟩
      · rw [if_pos (by simpa using hx)]
        have : fitsB w rows cs os r c = false := all_false_of hz (decide_eq_false hx)
        rw [this] at q
        exact fin_p q
  · rintro e s ⟨z6, z7, rfl, rfl, hb⟩
    walk_at "rd"
    rw [zip3_ln, List.length_map, List.length_map, ← List.length_zip, List.take_length] at hb
    have : fitsB w rows cs os r c = true := hb
    rw [this] at q
    exact fin_p q
theorem ok_fits (T : Txt K mg base) : Ok3 P w K mg base 2 "fits" sp_fits := by
  obtain ⟨f, fd, F, hm, hb⟩ := T.f_fits
  exact Ok3.mk' F hm hb sc_fits (fun ds S Q h => by simp only [sp_fits] at h; first | (obtain ⟨rfl, _⟩ := h; rfl) | (obtain ⟨_, rfl, _⟩ := h; rfl) | (obtain ⟨_, _, rfl, _⟩ := h; rfl) | (obtain ⟨_, _, _, rfl, _⟩ := h; rfl) | (obtain ⟨_, _, _, _, rfl, _⟩ := h; rfl) | (obtain ⟨_, _, _, _, _, rfl, _⟩ := h; rfl) | (obtain ⟨_, _, _, _, _, _, rfl, _⟩ := h; rfl) | (obtain ⟨_, _, _, _, _, _, _, rfl, _⟩ := h; rfl) | (obtain ⟨_, _, _, _, _, _, _, _, rfl, _⟩ := h; rfl) | (obtain ⟨_, _, _, _, _, _, _, _, _, rfl, _⟩ := h; rfl) | (obtain ⟨_, _, _, _, _, _, _, _, _, _, rfl, _⟩ := h; rfl) | exact h.2) (fun cdv A outer s H E hr => dv_fits T hr) rd_fits
def sp_places_of : Sp3 := fun ds S Q => ∃ (M w : Nat) (rows cs : List (List Int)) (os : List (Option Int)), ds = [.p (flo rows), .p (shp cs), .p (sen os)] ∧ Flo M w rows ∧ M ≤ 900 ∧ (∀ k ∈ cs, ∃ i j : Int, k = [i, j]) ∧ Q (.p (.tuple (((places rows.length w).filter fun p => fitsB w rows cs os p.1 p.2).map pl))) S
def t_places_of : TS3 := tRet3 (tCB3 (rTupOf3) (tCons3 (tPure (tLc3 (tSeqI3 (tCB3 sp_all_places (tCons3 (tVar3 0) (tNil3)))) (.nm 3) (tTest3 (tCB3 sp_fits (tCons3 (tVar3 0) (tCons3 (tVar3 1) (tCons3 (tVar3 2) (tCons3 (tVar3 3) (tNil3))))))) (tVar3 3) [3])) (tNil3)))
theorem dv_places_of (T : Txt K mg base) {f : Addr} {cdv : Value} {A : Around} {outer : List Env} {s : Shared} {H : Hp} {E : XK} (hr : Room 2 (A.deeper (envOfC "places_of" (defScope s_places_of) s.heap.objs.size f cdv))) : QSs (cxOf CX0 P w K mg base nm_places_of "places_of" (defScope s_places_of) f cdv A outer s H E).nox (defBody s_places_of) t_places_of :=
  qss_one (qs_ret (qe_ty cq_tuple (by rfl) T.b_tuple (by decide +kernel) (qa_cons (qn_pure (qn_lc (own := [("place", 3)]) rfl sc_places_of.nd (qi_seq (qe_call (ok_all_places T) (hr.mono (by decide)) (by rfl) (qa_cons (qv 0) (qa_nil)))) (blkOk_by (own := [("place", 3)]) (N := nm_places_of) (sc := defScope s_places_of) (by decide +kernel)) (fun _ _ _ _ _ => qb_nm (i := 3) sc_places_of.nd rfl (by first | exact .inl rfl | exact .inr rfl)) (fun _ _ _ _ _ => qts_one (qt_val (qe_call (ok_fits T) (hr.mono (by decide)) (by rfl) (qa_cons (qv 0) (qa_cons (qv 1) (qa_cons (qv 2) (qa_cons (qv 3) (qa_nil)))))))) (fun _ _ _ _ _ => qv 3))) (qa_nil))))
theorem rd_places_of : ∀ ds S Q, sp_places_of ds S Q → t_places_of { nx := fun _ S' => Fin3 S Q (.p .none) S', rt := Fin3 S Q } (env0 4 ds) S := by
  rintro _ S Q ⟨M, w, rows, cs, os, rfl, F, hM, hc, q⟩
  unfold t_places_of sp_all_places sp_fits
  walk_at "rd"
  refine ⟨M, w, rows, rfl, F, hM, ?_⟩
  refine ⟨fun i acc s => s = S ∧ acc = (((places rows.length w).take i).filter fun p => fitsB w rows cs os p.1 p.2).map pl, ⟨rfl, rfl⟩, fun _ _ _ _ => trivial, ?_, ?_⟩
  · rintro i d acc s hd ⟨rfl, rfl⟩
    rw [List.getElem?_map] at hd
    obtain ⟨p, hp, rfl⟩ := Option.map_eq_some_iff.mp hd
    walk_at "rd"
    refine ⟨M, w, rows, cs, os, _, _, rfl, F, hc, ?_⟩
    rw [pt_take_one hp, List.filter_append]
    cases hf : fitsB w rows cs os p.1 p.2 with
    | true =>
      walk_at "rd"
      simp [hf]
    | false =>
      walk_at "rd"
      simp [hf]
  · rintro acc s ⟨rfl, rfl⟩
    rw [List.take_length]
    walk_at "rd"
    exact fin_p q
theorem ok_places_of (T : Txt K mg base) : Ok3 P w K mg base 3 "places_of" sp_places_of := by
  obtain ⟨f, fd, F, hm, hb⟩ := T.f_places_of
  exact Ok3.mk' F hm hb sc_places_of (fun ds S Q h => by simp only [sp_places_of] at h; first | (obtain ⟨rfl, _⟩ := h; rfl) | (obtain ⟨_, rfl, _⟩ := h; rfl) | (obtain ⟨_, _, rfl, _⟩ := h; rfl) | (obtain ⟨_, _, _, rfl, _⟩ := h; rfl) | (obtain ⟨_, _, _, _, rfl, _⟩ := h; rfl) | (obtain ⟨_, _, _, _, _, rfl, _⟩ := h; rfl) | (obtain ⟨_, _, _, _, _, _, rfl, _⟩ := h; rfl) | (obtain ⟨_, _, _, _, _, _, _, rfl, _⟩ := h; rfl) | (obtain ⟨_, _, _, _, _, _, _, _, rfl, _⟩ := h; rfl) | (obtain ⟨_, _, _, _, _, _, _, _, _, rfl, _⟩ := h; rfl) | (obtain ⟨_, _, _, _, _, _, _, _, _, _, rfl, _⟩ := h; rfl) | exact h.2) (fun cdv A outer s H E hr => dv_places_of T hr) rd_places_of
def sp__law_pot : Sp3 := fun ds S Q => ∃ (ns : List Int) (k : Int), ds = [.p (.list (ns.map PyData.int)), .p (.int k)] ∧ ns.length ≤ 63 ∧ 0 ≤ k ∧ k ≤ 1000 ∧ ∀ S', H2 S' S.length → S'.take S.length = S → S'.length = S.length + 1 → Q (.loc S.length) S'
def t__law_pot : TS3 := tSeq3 (tSet3 2 (tOp3 rAdd3 (tOp3 rMulT3 (tC3 (.int 3)) (tVar3 1)) (tCB3 (rLenA3) (tCons3 (tVar3 0) (tNil3))))) (tSeq3 (tIfS3 (tTest3 (tOp3 rLtD3 (tVar3 1) (tCB3 (rLenA3) (tCons3 (tVar3 0) (tNil3))))) (tSet3 2 (tOp3 rIx3 (tVar3 0) (tVar3 1))) (tNext3)) (tSeq3 (tSet3 3 (tOp3 rMulT3 (tOp3 rMod3 (tCB3 (rAbs3) (tCons3 (tVar3 2) (tNil3))) (tCB3 (rIntT3) (tCons3 (tOp3 rAdd3 (tC3 (.str (PySem.Str.ofString "1"))) (tOp3 rMulS3 (tC3 (.str (PySem.Str.ofString "0"))) (tC3 (.int 400)))) (tNil3)))) (tCB3 (rIntOf3) (tCons3 (tOp3 rGe3 (tCB3 (rAbs3) (tCons3 (tVar3 2) (tNil3))) (tOp3 rPow3 (tC3 (.int 10)) (tC3 (.int 18)))) (tNil3))))) (tRet3 (tOwn (tLst3 (tCons3 (tVar3 3) (tCons3 (tOp3 rMod3 (tOp3 rMulT3 (tOp3 rAdd3 (tOp3 rAdd3 (tOp3 rMod3 (tVar3 2) (tC3 (.int 2147483629))) (tOp3 rMulT3 (tOp3 rMulT3 (tC3 (.int 7919)) (tVar3 1)) (tVar3 1))) (tC3 (.int 11))) (tC3 (.int 48271))) (tC3 (.int 2147483647))) (tNil3))))))))
theorem dv__law_pot (T : Txt K mg base) {f : Addr} {cdv : Value} {A : Around} {outer : List Env} {s : Shared} {H : Hp} {E : XK} (hr : Room 0 (A.deeper (envOfC "_law_pot" (defScope s__law_pot) s.heap.objs.size f cdv))) : QSs (cxOf CX0 P w K mg base nm__law_pot "_law_pot" (defScope s__law_pot) f cdv A outer s H E).nox (defBody s__law_pot) t__law_pot :=
  qss_cons (qs_set (i := 2) sc__law_pot.nd rfl (by first | exact .inl rfl | exact .inr rfl) (qe_op oq_add (qe_op oq_mulT (qe_int) (qv 1)) (qe_cb cq_lenA (by rfl) T.b_len (by decide +kernel) (qa_cons (qv 0) (qa_nil))))) (qss_cons (qs_if (qt_cmp (oq_ltD hr.units) (qv 1) (qe_cb cq_lenA (by rfl) T.b_len (by decide +kernel) (qa_cons (qv 0) (qa_nil)))) (qss_one (qs_set (i := 2) sc__law_pot.nd rfl (by first | exact .inl rfl | exact .inr rfl) (qe_ix iq_seq (qv 0) (qv 1)))) (qss_nil)) (qss_cons (qs_set (i := 3) sc__law_pot.nd rfl (by first | exact .inl rfl | exact .inr rfl) (qe_op oq_mulT (qe_op oq_mod (qe_cb cq_abs (by rfl) T.b_abs (by decide +kernel) (qa_cons (qv 2) (qa_nil))) (qe_ty (cq_intT T.nd) (by rfl) T.b_int (by decide +kernel) (qa_cons (qe_op oq_add (qe_str) (qe_op oq_mulS (qe_str) (qe_int))) (qa_nil)))) (qe_ty cq_int (by rfl) T.b_int (by decide +kernel) (qa_cons (qe_cmp oq_ge (qe_cb cq_abs (by rfl) T.b_abs (by decide +kernel) (qa_cons (qv 2) (qa_nil))) (qe_op oq_pow (qe_int) (qe_int))) (qa_nil))))) (qss_one (qs_ret (qn_own (qn_lst (qa_cons (qv 3) (qa_cons (qe_op oq_mod (qe_op oq_mulT (qe_op oq_add (qe_op oq_add (qe_op oq_mod (qv 2) (qe_int)) (qe_op oq_mulT (qe_op oq_mulT (qe_int) (qv 1)) (qv 1))) (qe_int)) (qe_int)) (qe_int)) (qa_nil)))))))))
theorem rd__law_pot : ∀ ds S Q, sp__law_pot ds S Q → t__law_pot { nx := fun _ S' => Fin3 S Q (.p .none) S', rt := Fin3 S Q } (env0 4 ds) S := by
  rintro _ S Q ⟨ns, k, rfl, hl, h0, h1, q⟩
  obtain ⟨N, hN, hN0⟩ := text_big (k := 400) (by decide) (by decide)
  have hlen : (Str.ofString "1").length + (repS (PySem.Str.ofString "0") 400).length ≤ 16777216 := by
    have l1 : (PySem.Str.ofString "1").length = 1 := by decide +kernel
    have : (repS (PySem.Str.ofString "0") 400).length ≤ 10000 := by
      show (repS (PySem.Str.ofString "0") 400).cps.size ≤ _
      rw [← Array.length_toList, repS_one (c := 48) (by decide +kernel), List.length_replicate]
      decide
    omega
  have l0 : (Str.ofString "0").length = 1 := by decide +kernel
  have fin : ∀ g y : Int, Fin3 S Q (.loc S.length) (S ++ [some (.lst [.int g, .int (y % 2147483647)])]) := fun g y => fin_new (q _ ⟨g, y % 2147483647, by simp, Int.emod_nonneg _ (by decide), Int.emod_lt_of_pos _ (by decide)⟩ (by simp) (by simp))
  unfold t__law_pot
  walk_at "rd"
  refine ⟨mulOk_lit (by decide), ?_⟩
  by_cases h : k < (ns.length : Int)
  · rw [if_pos h]
    obtain ⟨n, rfl⟩ := Int.eq_ofNat_of_zero_le h0
    have hn : n < ns.length := by omega
    simp only [show atI (ns.map PyData.int) (n : Int) = some (.int ns[n]) from atI_nat (by rw [List.getElem?_map, List.getElem?_eq_getElem hn]; rfl)]
    exact ⟨⟨l0, trivial⟩, hlen, N, hN, hN0, ⟨by decide, by decide, by decide, by decide⟩, mulOk_ite _ _, by decide, mulOk_lit (by decide), mulOk_lit (by omega), mulOk_lit' (by decide), fin _ _⟩
  · rw [if_neg h]
    exact ⟨⟨l0, trivial⟩, hlen, N, hN, hN0, ⟨by decide, by decide, by decide, by decide⟩, mulOk_ite _ _, mulOk_lit (by decide), mulOk_lit (by omega), mulOk_lit' (by decide), fin _ _⟩
theorem ok__law_pot (T : Txt K mg base) : Ok3 P w K mg base 1 "_law_pot" sp__law_pot := by
  obtain ⟨f, fd, F, hm, hb⟩ := T.f__law_pot
  exact Ok3.mk' F hm hb sc__law_pot (fun ds S Q h => by simp only [sp__law_pot] at h; first | (obtain ⟨rfl, _⟩ := h; rfl) | (obtain ⟨_, rfl, _⟩ := h; rfl) | (obtain ⟨_, _, rfl, _⟩ := h; rfl) | (obtain ⟨_, _, _, rfl, _⟩ := h; rfl) | (obtain ⟨_, _, _, _, rfl, _⟩ := h; rfl) | (obtain ⟨_, _, _, _, _, rfl, _⟩ := h; rfl) | (obtain ⟨_, _, _, _, _, _, rfl, _⟩ := h; rfl) | (obtain ⟨_, _, _, _, _, _, _, rfl, _⟩ := h; rfl) | (obtain ⟨_, _, _, _, _, _, _, _, rfl, _⟩ := h; rfl) | (obtain ⟨_, _, _, _, _, _, _, _, _, rfl, _⟩ := h; rfl) | (obtain ⟨_, _, _, _, _, _, _, _, _, _, rfl, _⟩ := h; rfl) | exact h.2) (fun cdv A outer s H E hr => dv__law_pot T hr) rd__law_pot
def sp__law_take : Sp3 := fun ds S Q => ∃ (n : Nat) (m : Int), ds = [.loc n, .p (.int m)] ∧ 0 < m ∧ m ≤ 1000000000000 ∧ H2 S n ∧ ∀ d S', 0 ≤ d → d < m → H2To n S S' → H2 S' n → Q (.p (.int d)) S'
def t__law_take : TS3 := tSeq3 (tIfS3 (tTest3 (tOp3 rGt3 (tOp3 rIx3 (tVar3 0) (tC3 (.int 0))) (tC3 (.int 0)))) (tSeq3 (tSet3 2 (tOp3 rMod3 (tOp3 rIx3 (tVar3 0) (tC3 (.int 0))) (tVar3 1))) (tSeq3 (tPut3 (tOp3 rDiv3 (tOp3 rIx3 (tVar3 0) (tC3 (.int 0))) (tVar3 1)) (tVar3 0) (tC3 (.int 0))) (tRet3 (tVar3 2)))) (tNext3)) (tSeq3 (tPut3 (tOp3 rMod3 (tOp3 rAdd3 (tOp3 rMulT3 (tOp3 rIx3 (tVar3 0) (tC3 (.int 1))) (tC3 (.int 48271))) (tC3 (.int 12345))) (tC3 (.int 2147483647))) (tVar3 0) (tC3 (.int 1))) (tRet3 (tOp3 rMod3 (tOp3 rDiv3 (tOp3 rMod3 (tOp3 rMulT3 (tOp3 rDiv3 (tOp3 rIx3 (tVar3 0) (tC3 (.int 1))) (tC3 (.int 7))) (tOp3 rAdd3 (tOp3 rMod3 (tOp3 rIx3 (tVar3 0) (tC3 (.int 1))) (tC3 (.int 65537))) (tC3 (.int 3)))) (tC3 (.int 1999999973))) (tC3 (.int 5))) (tVar3 1))))
theorem dv__law_take (T : Txt K mg base) {f : Addr} {cdv : Value} {A : Around} {outer : List Env} {s : Shared} {H : Hp} {E : XK} (hr : Room 0 (A.deeper (envOfC "_law_take" (defScope s__law_take) s.heap.objs.size f cdv))) : QSs (cxOf CX0 P w K mg base nm__law_take "_law_take" (defScope s__law_take) f cdv A outer s H E).nox (defBody s__law_take) t__law_take :=
  qss_cons (qs_if (qt_cmp oq_gt (qe_ix iq_seq (qv 0) (qe_int)) (qe_int)) (qss_cons (qs_set (i := 2) sc__law_take.nd rfl (by first | exact .inl rfl | exact .inr rfl) (qe_op oq_mod (qe_ix iq_seq (qv 0) (qe_int)) (qv 1))) (qss_cons (qs_put (qe_op oq_div (qe_ix iq_seq (qv 0) (qe_int)) (qv 1)) (qv 0) (qe_int)) (qss_one (qs_ret (qv 2))))) (qss_nil)) (qss_cons (qs_put (qe_op oq_mod (qe_op oq_add (qe_op oq_mulT (qe_ix iq_seq (qv 0) (qe_int)) (qe_int)) (qe_int)) (qe_int)) (qv 0) (qe_int)) (qss_one (qs_ret (qe_op oq_mod (qe_op oq_div (qe_op oq_mod (qe_op oq_mulT (qe_op oq_div (qe_ix iq_seq (qv 0) (qe_int)) (qe_int)) (qe_op oq_add (qe_op oq_mod (qe_ix iq_seq (qv 0) (qe_int)) (qe_int)) (qe_int))) (qe_int)) (qe_int)) (qv 1)))))
theorem rd__law_take : ∀ ds S Q, sp__law_take ds S Q → t__law_take { nx := fun _ S' => Fin3 S Q (.p .none) S', rt := Fin3 S Q } (env0 3 ds) S := by
  rintro _ S Q ⟨n, m, rfl, h0, h1, hd, q⟩
  have hlt := hd.lt
  obtain ⟨g, x, hs, x0, x1⟩ := hd
  unfold t__law_take
  walk_at "rd"
  simp only [hs, List.getElem?_set_self hlt]
  walk_at "rd"
  try simp only [hs, List.getElem?_set_self hlt]
  walk_at "rd"
  by_cases hg : 0 < g
  · rw [if_pos hg]
    exact ⟨h0, ⟨h0, .inl (by omega)⟩, fin_h2 ⟨_, _, rfl⟩ (q _ _ (Int.emod_nonneg _ (by omega)) (Int.emod_lt_of_pos _ h0) ⟨_, _, rfl⟩ ⟨_, _, List.getElem?_set_self hlt, x0, x1⟩)⟩
  · rw [if_neg hg]
    have y0 := Int.emod_nonneg (x * 48271 + 12345) (show (2147483647 : Int) ≠ 0 by decide)
    have y1 := Int.emod_lt_of_pos (x * 48271 + 12345) (show (0 : Int) < 2147483647 by decide)
    generalize (x * 48271 + 12345) % 2147483647 = y at *
    exact ⟨mulOk_lit' (by decide), ⟨by decide, .inl (by decide)⟩, mulOk_lit (by omega), ⟨by decide, .inl (by decide)⟩, h0, fin_h2 ⟨_, _, rfl⟩ (q _ _ (Int.emod_nonneg _ (by omega)) (Int.emod_lt_of_pos _ h0) ⟨_, _, rfl⟩ ⟨_, _, List.getElem?_set_self hlt, y0, y1⟩)⟩
theorem ok__law_take (T : Txt K mg base) : Ok3 P w K mg base 1 "_law_take" sp__law_take := by
  obtain ⟨f, fd, F, hm, hb⟩ := T.f__law_take
  exact Ok3.mk' F hm hb sc__law_take (fun ds S Q h => by simp only [sp__law_take] at h; first | (obtain ⟨rfl, _⟩ := h; rfl) | (obtain ⟨_, rfl, _⟩ := h; rfl) | (obtain ⟨_, _, rfl, _⟩ := h; rfl) | (obtain ⟨_, _, _, rfl, _⟩ := h; rfl) | (obtain ⟨_, _, _, _, rfl, _⟩ := h; rfl) | (obtain ⟨_, _, _, _, _, rfl, _⟩ := h; rfl) | (obtain ⟨_, _, _, _, _, _, rfl, _⟩ := h; rfl) | (obtain ⟨_, _, _, _, _, _, _, rfl, _⟩ := h; rfl) | (obtain ⟨_, _, _, _, _, _, _, _, rfl, _⟩ := h; rfl) | (obtain ⟨_, _, _, _, _, _, _, _, _, rfl, _⟩ := h; rfl) | (obtain ⟨_, _, _, _, _, _, _, _, _, _, rfl, _⟩ := h; rfl) | exact h.2) (fun cdv A outer s H E hr => dv__law_take T hr) rd__law_take
def sp__law_floor : Sp3 := fun ds S Q => ∃ n : Nat, ds = [.loc n] ∧ H2 S n ∧ ∀ (w : Nat) (T : List (List Nat)) S', Tor w (T.map fun r => r.map some) → T.length ≤ 6 → w ≤ 30 → H2To n S S' → H2 S' n → Q (.p (tor (T.map fun r => r.map some))) S'
def t__law_floor : TS3 := tSeq3 (tSet3 1 (tOp3 rAdd3 (tC3 (.int 1)) (tCB3 sp__law_take (tCons3 (tVar3 0) (tCons3 (tC3 (.int 6)) (tNil3)))))) (tSeq3 (tSet3 2 (tOp3 rAdd3 (tC3 (.int 1)) (tCB3 sp__law_take (tCons3 (tVar3 0) (tCons3 (tOp3 rDiv3 (tC3 (.int 30)) (tVar3 1)) (tNil3)))))) (tSeq3 (tSet3 3 (tOp3 rIx3 (tPure (tLst3 (tCons3 (tC3 (.int 2)) (tCons3 (tC3 (.int 3)) (tCons3 (tC3 (.int 36)) (tCons3 (tOp3 rAdd3 (tC3 (.int 1)) (tCB3 sp__law_take (tCons3 (tVar3 0) (tCons3 (tC3 (.int 36)) (tNil3))))) (tNil3))))))) (tCB3 sp__law_take (tCons3 (tVar3 0) (tCons3 (tC3 (.int 4)) (tNil3)))))) (tRet3 (tCB3 (rTupOf3) (tCons3 (tPure (tLc3 (tRng1 (tCons3 (tVar3 1) (tNil3))) (.nm 4) (tYes3) (tCB3 (rTupOf3) (tCons3 (tPure (tLc3 (tRng1 (tCons3 (tVar3 2) (tNil3))) (.nm 5) (tYes3) (tCB3 sp__law_take (tCons3 (tVar3 0) (tCons3 (tVar3 3) (tNil3)))) [5])) (tNil3))) [4])) (tNil3))))))
theorem dv__law_floor (T : Txt K mg base) {f : Addr} {cdv : Value} {A : Around} {outer : List Env} {s : Shared} {H : Hp} {E : XK} (hr : Room 1 (A.deeper (envOfC "_law_floor" (defScope s__law_floor) s.heap.objs.size f cdv))) : QSs (cxOf CX0 P w K mg base nm__law_floor "_law_floor" (defScope s__law_floor) f cdv A outer s H E).nox (defBody s__law_floor) t__law_floor :=
  qss_cons (qs_set (i := 1) sc__law_floor.nd rfl (by first | exact .inl rfl | exact .inr rfl) (qe_op oq_add (qe_int) (qe_call (ok__law_take T) (hr.mono (by decide)) (by rfl) (qa_cons (qv 0) (qa_cons (qe_int) (qa_nil)))))) (qss_cons (qs_set (i := 2) sc__law_floor.nd rfl (by first | exact .inl rfl | exact .inr rfl) (qe_op oq_add (qe_int) (qe_call (ok__law_take T) (hr.mono (by decide)) (by rfl) (qa_cons (qv 0) (qa_cons (qe_op oq_div (qe_int) (qv 1)) (qa_nil)))))) (qss_cons (qs_set (i := 3) sc__law_floor.nd rfl (by first | exact .inl rfl | exact .inr rfl) (qe_ix iq_seq (qn_pure (qn_lst (qa_cons (qe_int) (qa_cons (qe_int) (qa_cons (qe_int) (qa_cons (qe_op oq_add (qe_int) (qe_call (ok__law_take T) (hr.mono (by decide)) (by rfl) (qa_cons (qv 0) (qa_cons (qe_int) (qa_nil))))) (qa_nil))))))) (qe_call (ok__law_take T) (hr.mono (by decide)) (by rfl) (qa_cons (qv 0) (qa_cons (qe_int) (qa_nil)))))) (qss_one (qs_ret (qe_ty cq_tuple (by rfl) T.b_tuple (by decide +kernel) (qa_cons (qn_pure (qn_lc (own := [("_law_r", 4)]) rfl sc__law_floor.nd (qi_range1 (by rfl) T.b_range (qa_cons (qv 1) (qa_nil))) (blkOk_by (own := [("_law_r", 4)]) (N := nm__law_floor) (sc := defScope s__law_floor) (by decide +kernel)) (fun _ _ _ _ _ => qb_nm (i := 4) sc__law_floor.nd rfl (by first | exact .inl rfl | exact .inr rfl)) (fun _ _ _ _ _ => qts_nil) (fun _ _ _ _ _ => qe_ty cq_tuple (by rfl) T.b_tuple (by decide +kernel) (qa_cons (qn_pure (qn_lc (own := [("_law_c", 5)]) rfl sc__law_floor.nd (qi_range1 (by rfl) T.b_range (qa_cons (qv 2) (qa_nil))) (by refine blkOk_by (own := [("_law_c", 5)]) ?_; walk_at "bd") (fun _ _ _ _ _ => qb_nm (i := 5) sc__law_floor.nd rfl (by first | exact .inl rfl | exact .inr rfl)) (fun _ _ _ _ _ => qts_nil) (fun _ _ _ _ _ => qe_call (ok__law_take T) (hr.mono (by decide)) (by rfl) (qa_cons (qv 0) (qa_cons (qv 3) (qa_nil)))))) (qa_nil))))) (qa_nil)))))))
theorem rd__law_floor : ∀ ds S Q, sp__law_floor ds S Q → t__law_floor { nx := fun _ S' => Fin3 S Q (.p .none) S', rt := Fin3 S Q } (env0 6 ds) S := by
  rintro _ S Q ⟨n, rfl, hd, q⟩
  unfold t__law_floor sp__law_take
  walk_at "rd"
  refine ⟨n, 6, rfl, by decide, by decide, hd, fun d2 S2 a2 b2 t2 hd2 => ?_⟩
  obtain ⟨n2, rfl⟩ := Int.eq_ofNat_of_zero_le a2
  have hdv : (30 : Int) / (1 + (n2 : Nat)) = ((30 / (1 + n2) : Nat) : Int) := by
    rw [show (1 : Int) + (n2 : Nat) = ((1 + n2 : Nat) : Int) from rfl]
    rfl
  rw [hdv]
  have hp1 : 0 < 30 / (1 + n2) := Nat.div_pos (by omega) (by omega)
  have hp2 := Nat.div_mul_le_self 30 (1 + n2)
  have hp3 := Nat.div_le_self 30 (1 + n2)
  refine ⟨⟨by omega, .inl (by omega)⟩, n, 30 / (1 + n2), rfl, by omega, by omega, hd2, fun d3 S3 a3 b3 t3 hd3 => ?_⟩
  obtain ⟨n3, rfl⟩ := Int.eq_ofNat_of_zero_le a3
  have hb : (1 + n2) * (1 + n3) ≤ (1 + n2) * (30 / (1 + n2)) := Nat.mul_le_mul_left _ (by omega)
  rw [Nat.mul_comm (1 + n2) (30 / (1 + n2))] at hb
  refine ⟨n, 36, rfl, by decide, by decide, hd3, fun d4 S4 a4 b4 t4 hd4 => ?_⟩
  obtain ⟨n4, rfl⟩ := Int.eq_ofNat_of_zero_le a4
  refine ⟨n, 4, rfl, by decide, by decide, hd4, fun d5 S5 a5 b5 t5 hd5 => ?_⟩
  have t6 := (((t2.trans t3).trans t4).trans t5)
  obtain ⟨j, x, _, _, hx, hat⟩ := pt_atI (xs := [PyData.int 2, .int 3, .int 36, .int (1 + (n4 : Nat))]) a5 b5
  obtain ⟨few, rfl, f1, f2⟩ : ∃ f : Nat, x = .int (f : Nat) ∧ 1 ≤ f ∧ f ≤ 36 := by
    have hm := List.mem_of_getElem? hx
    simp only [List.mem_cons, List.not_mem_nil, or_false] at hm
    rcases hm with rfl | rfl | rfl | rfl
    · exact ⟨2, rfl, by decide, by decide⟩
    · exact ⟨3, rfl, by decide, by decide⟩
    · exact ⟨36, rfl, by decide, by decide⟩
    · exact ⟨1 + n4, rfl, by omega, by omega⟩
  rw [hat]
  rw [show (1 : Int) + (n2 : Nat) = ((1 + n2 : Nat) : Int) from rfl, show (1 : Int) + (n3 : Nat) = ((1 + n3 : Nat) : Int) from rfl]
  generalize hH : 1 + n2 = h at *
  generalize hWw : 1 + n3 = w at *
  refine ⟨by omega, fun i acc s => H2To n S s ∧ H2 s n ∧ ∃ T : List (List Nat), T.length = i ∧ (∀ r ∈ T, r.length = w ∧ ∀ x ∈ r, x < 36) ∧ acc = T.map fun r => .tuple (r.map fun x => .int (x : Nat)), ⟨t6, hd5, [], rfl, fun r hr => (nomatch hr), rfl⟩, fun _ _ _ _ => trivial, ?_, ?_⟩
  · rintro i d acc s hi ⟨tz, hz, T, hTl, hT, rfl⟩
    obtain ⟨hi, rfl⟩ := rng_get hi
    refine ⟨by omega, fun j acc2 s2 => H2To n S s2 ∧ H2 s2 n ∧ ∃ r : List Nat, r.length = j ∧ (∀ x ∈ r, x < 36) ∧ acc2 = r.map fun x => .int (x : Nat), ⟨tz, hz, [], rfl, fun r hr => (nomatch hr), rfl⟩, fun _ _ _ _ => trivial, ?_, ?_⟩
    · rintro j d acc2 s2 hj ⟨ty, hy, r, hrl, hr, rfl⟩
      refine ⟨n, _, rfl, by omega, by omega, hy, fun d8 S8 a8 b8 t8 hd8 => ?_⟩
      obtain ⟨x8, rfl⟩ := Int.eq_ofNat_of_zero_le a8
      refine ⟨ty.trans t8, hd8, r ++ [x8], by rw [List.length_append, hrl]; rfl, fun y hy => ?_, ?_⟩
      · rcases List.mem_append.mp hy with hy | hy
        · exact hr y hy
        · rw [List.mem_singleton.mp hy]
          omega
      · rw [List.map_append]
        rfl
    · rintro acc2 s2 ⟨ty, hy, r, hrl, hr, rfl⟩
      rw [rng_len, Int.toNat_natCast] at hrl
      refine ⟨ty, hy, T ++ [r], by rw [List.length_append, hTl]; rfl, fun z hz => ?_, by rw [List.map_append]; rfl⟩
      rcases List.mem_append.mp hz with hz | hz
      · exact hT z hz
      · rw [List.mem_singleton.mp hz]
        exact ⟨hrl, hr⟩
  · rintro acc s ⟨tz, hz, T, hTl, hT, rfl⟩
    rw [rng_len, Int.toNat_natCast] at hTl
    have hd : PyData.tuple (T.map fun r => .tuple (r.map fun x => .int (x : Nat))) = tor (T.map fun r => r.map some) := by
      unfold tor
      rw [List.map_map]
      congr 1
      refine List.map_congr_left fun r _ => ?_
      show _ = PyData.tuple ((r.map some).map optN)
      rw [List.map_map]
      rfl
    rw [hd]
    refine fin_h2 tz (q w T s ⟨?_, by omega, ?_, ?_, ?_⟩ (by omega) (by omega) tz hz)
    · intro z
      have := congrArg List.length z
      rw [List.length_map] at this
      simp at this
      rw [this] at hTl
      simp at hTl
      omega
    · intro r hr
      obtain ⟨r0, h0, rfl⟩ := List.mem_map.mp hr
      rw [List.length_map]
      exact (hT r0 h0).1
    · rw [List.length_map, hTl]
      omega
    · intro r hr x hx
      obtain ⟨r0, h0, rfl⟩ := List.mem_map.mp hr
      obtain ⟨y, hy, e⟩ := List.mem_map.mp hx
      cases e
      exact (hT r0 h0).2 x hy
theorem ok__law_floor (T : Txt K mg base) : Ok3 P w K mg base 2 "_law_floor" sp__law_floor := by
  obtain ⟨f, fd, F, hm, hb⟩ := T.f__law_floor
  exact Ok3.mk' F hm hb sc__law_floor (fun ds S Q h => by simp only [sp__law_floor] at h; first | (obtain ⟨rfl, _⟩ := h; rfl) | (obtain ⟨_, rfl, _⟩ := h; rfl) | (obtain ⟨_, _, rfl, _⟩ := h; rfl) | (obtain ⟨_, _, _, rfl, _⟩ := h; rfl) | (obtain ⟨_, _, _, _, rfl, _⟩ := h; rfl) | (obtain ⟨_, _, _, _, _, rfl, _⟩ := h; rfl) | (obtain ⟨_, _, _, _, _, _, rfl, _⟩ := h; rfl) | (obtain ⟨_, _, _, _, _, _, _, rfl, _⟩ := h; rfl) | (obtain ⟨_, _, _, _, _, _, _, _, rfl, _⟩ := h; rfl) | (obtain ⟨_, _, _, _, _, _, _, _, _, rfl, _⟩ := h; rfl) | (obtain ⟨_, _, _, _, _, _, _, _, _, _, rfl, _⟩ := h; rfl) | exact h.2) (fun cdv A outer s H E hr => dv__law_floor T hr) rd__law_floor
def sp__law_shape : Sp3 := fun ds S Q => ∃ n : Nat, ds = [.loc n] ∧ H2 S n ∧ ∀ (cs : List (Nat × Nat)) S', Sh7 8 3 4 cs → H2To n S S' → H2 S' n → Q (.p (csD cs)) S'
def t__law_shape : TS3 := tSeq3 (tSet3 1 (tTNew3)) (tSeq3 (tFor3 (tRng1 (tCons3 (tOp3 rAdd3 (tC3 (.int 1)) (tCB3 sp__law_take (tCons3 (tVar3 0) (tCons3 (tC3 (.int 8)) (tNil3))))) (tNil3))) (.nm 2) (tTPut3 (tC3 (.bool true)) (tVar3 1) (tTup3 (tCons3 (tCB3 sp__law_take (tCons3 (tVar3 0) (tCons3 (tC3 (.int 3)) (tNil3)))) (tCons3 (tCB3 sp__law_take (tCons3 (tVar3 0) (tCons3 (tC3 (.int 4)) (tNil3)))) (tNil3)))))) (tSeq3 (tSet3 3 (tCB3 (rMinL3) (tCons3 (tLk3 1 (tPure (tLc3 (tKeysD3 (tVar3 1)) (.tup (.cons (.nm 5) (.cons (.nm 6) (.nil)))) (tYes3) (tVar3 5) [5, 6]))) (tNil3)))) (tSeq3 (tSet3 4 (tCB3 (rMinL3) (tCons3 (tLk3 1 (tPure (tLc3 (tKeysD3 (tVar3 1)) (.tup (.cons (.nm 5) (.cons (.nm 6) (.nil)))) (tYes3) (tVar3 6) [5, 6]))) (tNil3)))) (tRet3 (tCB3 (rTupOf3) (tCons3 (tPure (tSortedD3 (tLk3 1 (tPure (tLc3 (tKeysD3 (tVar3 1)) (.tup (.cons (.nm 5) (.cons (.nm 6) (.nil)))) (tYes3) (tTup3 (tCons3 (tOp3 rSub3 (tVar3 5) (tVar3 3)) (tCons3 (tOp3 rSub3 (tVar3 6) (tVar3 4)) (tNil3)))) [5, 6]))))) (tNil3)))))))
theorem dv__law_shape (T : Txt K mg base) {f : Addr} {cdv : Value} {A : Around} {outer : List Env} {s : Shared} {H : Hp} {E : XK} (hr : Room 1 (A.deeper (envOfC "_law_shape" (defScope s__law_shape) s.heap.objs.size f cdv))) : QSs (cxOf CX0 P w K mg base nm__law_shape "_law_shape" (defScope s__law_shape) f cdv A outer s H E).nox (defBody s__law_shape) t__law_shape :=
  qss_cons (qs_set (i := 1) sc__law_shape.nd rfl (by first | exact .inl rfl | exact .inr rfl) (qe_tnew)) (qss_cons (qs_for PassesOwn.never rfl (qi_range1 (by rfl) T.b_range (qa_cons (qe_op oq_add (qe_int) (qe_call (ok__law_take T) (hr.mono (by decide)) (by rfl) (qa_cons (qv 0) (qa_cons (qe_int) (qa_nil))))) (qa_nil))) (qb_nm (i := 2) sc__law_shape.nd rfl (by first | exact .inl rfl | exact .inr rfl)) (qss_one (qs_tput T.nt hr.units (qe_bl) (qv 1) (qe_tup (qa_cons (qe_call (ok__law_take T) (hr.mono (by decide)) (by rfl) (qa_cons (qv 0) (qa_cons (qe_int) (qa_nil)))) (qa_cons (qe_call (ok__law_take T) (hr.mono (by decide)) (by rfl) (qa_cons (qv 0) (qa_cons (qe_int) (qa_nil)))) (qa_nil))))))) (qss_cons (qs_set (i := 3) sc__law_shape.nd rfl (by first | exact .inl rfl | exact .inr rfl) (qe_cb (cq_minL rfl) (by rfl) T.b_min (by decide +kernel) (qa_cons (qe_lk 1 (qn_pure (qn_lc (own := [("_law_i", 5), ("_law_j", 6)]) rfl sc__law_shape.nd (qi_keysD (qv 1)) (blkOk_by (own := [("_law_i", 5), ("_law_j", 6)]) (N := nm__law_shape) (sc := defScope s__law_shape) (by decide +kernel)) (fun _ _ _ _ _ => qb_tup rfl (qbs_cons (qb_nm (i := 5) sc__law_shape.nd rfl (by first | exact .inl rfl | exact .inr rfl)) (qbs_cons (qb_nm (i := 6) sc__law_shape.nd rfl (by first | exact .inl rfl | exact .inr rfl)) (qbs_nil)))) (fun _ _ _ _ _ => qts_nil) (fun _ _ _ _ _ => qv 5)))) (qa_nil)))) (qss_cons (qs_set (i := 4) sc__law_shape.nd rfl (by first | exact .inl rfl | exact .inr rfl) (qe_cb (cq_minL rfl) (by rfl) T.b_min (by decide +kernel) (qa_cons (qe_lk 1 (qn_pure (qn_lc (own := [("_law_i", 5), ("_law_j", 6)]) rfl sc__law_shape.nd (qi_keysD (qv 1)) (blkOk_by (own := [("_law_i", 5), ("_law_j", 6)]) (N := nm__law_shape) (sc := defScope s__law_shape) (by decide +kernel)) (fun _ _ _ _ _ => qb_tup rfl (qbs_cons (qb_nm (i := 5) sc__law_shape.nd rfl (by first | exact .inl rfl | exact .inr rfl)) (qbs_cons (qb_nm (i := 6) sc__law_shape.nd rfl (by first | exact .inl rfl | exact .inr rfl)) (qbs_nil)))) (fun _ _ _ _ _ => qts_nil) (fun _ _ _ _ _ => qv 6)))) (qa_nil)))) (qss_one (qs_ret (qe_ty cq_tuple (by rfl) T.b_tuple (by decide +kernel) (qa_cons (qn_pure (qn_sortedD hr.units (by rfl) T.b_sorted (qe_lk 1 (qn_pure (qn_lc (own := [("_law_i", 5), ("_law_j", 6)]) rfl sc__law_shape.nd (qi_keysD (qv 1)) (blkOk_by (own := [("_law_i", 5), ("_law_j", 6)]) (N := nm__law_shape) (sc := defScope s__law_shape) (by decide +kernel)) (fun _ _ _ _ _ => qb_tup rfl (qbs_cons (qb_nm (i := 5) sc__law_shape.nd rfl (by first | exact .inl rfl | exact .inr rfl)) (qbs_cons (qb_nm (i := 6) sc__law_shape.nd rfl (by first | exact .inl rfl | exact .inr rfl)) (qbs_nil)))) (fun _ _ _ _ _ => qts_nil) (fun _ _ _ _ _ => qe_tup (qa_cons (qe_op oq_sub (qv 5) (qv 3)) (qa_cons (qe_op oq_sub (qv 6) (qv 4)) (qa_nil))))))))) (qa_nil))))))))
theorem rd__law_shape : ∀ ds S Q, sp__law_shape ds S Q → t__law_shape { nx := fun _ S' => Fin3 S Q (.p .none) S', rt := Fin3 S Q } (env0 7 ds) S := by
  rintro _ S Q ⟨n, rfl, hd, q⟩
  have hn := hd.lt
  unfold t__law_shape sp__law_take
  walk_at "rd"
  refine ⟨n, 8, rfl, by decide, by decide, hd.app, fun d1 S1 a1 b1 t1 hd1 => ?_⟩
  obtain ⟨S1', rfl, t1'⟩ := H2To.app hn t1
  have hl1 := t1'.len
  obtain ⟨n1, rfl⟩ := Int.eq_ofNat_of_zero_le a1
  have hd1' := H2.of_app (by omega) hd1
  refine ⟨by omega, fun i e s => ∃ (S2 : S3) (L : List (Nat × Nat)), s = S2 ++ [some (.dic (bxK L))] ∧ H2To n S S2 ∧ H2 S2 n ∧ L.length ≤ i ∧ (0 < i → L ≠ []) ∧ L.Nodup ∧ (∀ p ∈ L, p.1 < 3 ∧ p.2 < 4) ∧ ∃ z3 z4 z5 z6 z7 : Option D, e = [some (.loc n), some (.loc S.length), z3, z4, z5, z6, z7], ⟨S1', [], rfl, t1', hd1', Nat.le_refl _, fun z => absurd z (by decide), List.nodup_nil, by simp, none, none, none, none, none, rfl⟩, fun _ _ _ _ => trivial, ?_, ?_⟩
  · rintro i d e s hx ⟨S2, L, rfl, t2, hd2, hLi, hL0, hLn, hLb, z3, z4, z5, z6, z7, rfl⟩
    obtain ⟨hi, rfl⟩ := rng_get hx
    have hl2 := t2.len
    walk_at "rd"
    refine ⟨n, 3, rfl, by decide, by decide, hd2.app, fun d3 S3x a3 b3 t3x hd3x => ?_⟩
    obtain ⟨S3, rfl, t3⟩ := H2To.app (by omega) t3x
    have hd3 := H2.of_app (by have := t3.len; omega) hd3x
    refine ⟨n, 4, rfl, by decide, by decide, hd3.app, fun d4 S4x a4 b4 t4x hd4x => ?_⟩
    obtain ⟨S4, rfl, t4⟩ := H2To.app (by have := t3.len; omega) t4x
    have hd4 := H2.of_app (by have := t3.len; have := t4.len; omega) hd4x
    have tt := (t2.trans t3).trans t4
    have hl4 := tt.len
    obtain ⟨a, rfl⟩ := Int.eq_ofNat_of_zero_le a3
    obtain ⟨b, rfl⟩ := Int.eq_ofNat_of_zero_le a4
    have hk := keyT_pl (a, b)
    have g4 : (S4 ++ [some (O3.dic (bxK L))])[S.length]? = some (some (.dic (bxK L))) := by rw [← hl4]; simp
    have gs4 : ∀ y : Option O3, (S4 ++ [some (O3.dic (bxK L))]).set S.length y = S4 ++ [y] := fun y => by rw [← hl4]; simp
    simp only [g4]
    rw [show keyT (D.p (PyData.tuple [PyData.int (a : Nat), PyData.int (b : Nat)])) = some (plK (a, b)) from hk]
    simp only [gs4]
    refine ⟨by rw [bxK_len]; omega, ?_⟩
    by_cases hm : (a, b) ∈ L
    · rw [bx_put_in hm]
      exact wk_self ⟨S4, L, rfl, tt, hd4, by omega, fun _ => List.ne_nil_of_mem hm, hLn, hLb, _, _, _, _, _, rfl⟩
    · rw [bx_put hm]
      exact wk_self ⟨S4, L ++ [(a, b)], rfl, tt, hd4, by simp; omega, fun _ => by simp, List.nodup_append.mpr ⟨hLn, by simp, fun x hx y hy e => hm (by rw [List.mem_singleton] at hy; rw [← hy, ← e]; exact hx)⟩, fun p hp => (List.mem_append.mp hp).elim (hLb p) fun h => by rw [List.mem_singleton.mp h]; exact ⟨by omega, by omega⟩, _, _, _, _, _, rfl⟩
  · rintro e s ⟨S2, L, rfl, t2, hd2, hLi, hL0, hLn, hLb, z3, z4, z5, z6, z7, rfl⟩
    rw [rng_len] at hLi hL0
    have hl2 := t2.len
    have hL := hL0 (by omega)
    have g2 : ∀ y : Option O3, (S2 ++ [y])[S.length]? = some y := fun y => by rw [← hl2]; simp
    have gs2 : ∀ x y : Option O3, (S2 ++ [x]).set S.length y = S2 ++ [y] := fun x y => by rw [← hl2]; simp
    have klen : ∀ p ∈ bxK L, p.1.length ≤ 16777216 := fun p hp => by
      obtain ⟨x, _, rfl⟩ := List.mem_map.mp hp
      show 2 ≤ _
      decide
    have hkeys : (bxK L).map (fun p => keyPd p.1) = L.map pD := by unfold bxK; rw [List.map_map]; rfl
    walk_at "rd"
    simp only [g2, gs2, hkeys]
    intro od kxs
    refine ⟨by rw [bxK_len]; omega, klen, fun i acc s => s = S2 ++ [some (.dif od kxs (bxK L))] ∧ acc = ((L.take i).map fun p => (p.1 : Int)).map PyData.int, ⟨rfl, rfl⟩, fun i acc s h => by rw [h.1]; exact g2 _, ?_, ?_⟩
    · rintro i x acc s hx ⟨rfl, rfl⟩
      rw [List.getElem?_map] at hx
      obtain ⟨p, hp, rfl⟩ := Option.map_eq_some_iff.mp hx
      unfold pD
      walk_at "rd"
      rw [pt_take_one hp, List.map_append, List.map_append]
      rfl
    rintro acc s ⟨rfl, rfl⟩
    refine ⟨g2 _, ?_⟩
    rw [bxK_len, List.take_length]
    have n0 : L.map (fun p => (p.1 : Int)) ≠ [] := fun z => hL (List.map_eq_nil_iff.mp z)
    have n1' : L.map (fun p => (p.2 : Int)) ≠ [] := fun z => hL (List.map_eq_nil_iff.mp z)
    simp only [allP_intsF, g2, gs2, hkeys]
    refine ⟨n0, fun od2 kxs2 => ?_⟩
    refine ⟨by rw [bxK_len]; omega, klen, fun i acc s => s = S2 ++ [some (.dif od2 kxs2 (bxK L))] ∧ acc = ((L.take i).map fun p => (p.2 : Int)).map PyData.int, ⟨rfl, rfl⟩, fun i acc s h => by rw [h.1]; exact g2 _, ?_, ?_⟩
    · rintro i x acc s hx ⟨rfl, rfl⟩
      rw [List.getElem?_map] at hx
      obtain ⟨p, hp, rfl⟩ := Option.map_eq_some_iff.mp hx
      unfold pD
      walk_at "rd"
      rw [pt_take_one hp, List.map_append, List.map_append]
      rfl
    rintro acc s ⟨rfl, rfl⟩
    refine ⟨g2 _, ?_⟩
    rw [bxK_len, List.take_length]
    obtain ⟨mm0, l0⟩ := minI_spec n0
    obtain ⟨mm1, l1⟩ := minI_spec n1'
    simp only [allP_intsF, g2, gs2, hkeys]
    refine ⟨n1', fun od3 kxs3 => ?_⟩
    generalize minI (L.map fun p => (p.1 : Int)) = up at *
    generalize minI (L.map fun p => (p.2 : Int)) = left at *
    refine ⟨by rw [bxK_len]; omega, klen, fun i acc s => s = S2 ++ [some (.dif od3 kxs3 (bxK L))] ∧ acc = ((L.take i).map fun p => [(p.1 : Int) - up, (p.2 : Int) - left]).map tupI, ⟨rfl, rfl⟩, fun i acc s h => by rw [h.1]; exact g2 _, ?_, ?_⟩
    · rintro i x acc s hx ⟨rfl, rfl⟩
      rw [List.getElem?_map] at hx
      obtain ⟨p, hp, rfl⟩ := Option.map_eq_some_iff.mp hx
      unfold pD
      walk_at "rd"
      rw [pt_take_one hp, List.map_append, List.map_append]
      rfl
    rintro acc s ⟨rfl, rfl⟩
    refine ⟨g2 _, ?_⟩
    rw [bxK_len, List.take_length]
    walk_at "rd"
    simp only [gs2]
    obtain ⟨p0, hp0, e0⟩ := List.mem_map.mp mm0
    obtain ⟨p1, hp1, e1⟩ := List.mem_map.mp mm1
    have f0 : ∀ p ∈ L, p0.1 ≤ p.1 := fun p hp => by
      have := l0 _ (List.mem_map_of_mem (f := fun p : Nat × Nat => (p.1 : Int)) hp)
      have e0 : ((p0.1 : Nat) : Int) = up := e0
      have this : up ≤ ((p.1 : Nat) : Int) := this
      omega
    have f1 : ∀ p ∈ L, p1.2 ≤ p.2 := fun p hp => by
      have := l1 _ (List.mem_map_of_mem (f := fun p : Nat × Nat => (p.2 : Int)) hp)
      have e1 : ((p1.2 : Nat) : Int) = left := e1
      have this : left ≤ ((p.2 : Nat) : Int) := this
      omega
    have el : (L.map fun p => [(p.1 : Int) - up, (p.2 : Int) - left]) = (L.map fun p => (p.1 - p0.1, p.2 - p1.2)).map plI := by
      rw [List.map_map]
      refine List.map_congr_left fun p hp => ?_
      have g0 := f0 p hp
      have g1 := f1 p hp
      show _ = [((p.1 - p0.1 : Nat) : Int), ((p.2 - p1.2 : Nat) : Int)]
      rw [← e0, ← e1, Int.ofNat_sub g0, Int.ofNat_sub g1]
    have nd0 : (L.map fun p => (p.1 - p0.1, p.2 - p1.2)).Nodup := nd_map_of hLn fun x hx y hy e => by
      have a1 := f0 x hx
      have a2 := f1 x hx
      have a3 := f0 y hy
      have a4 := f1 y hy
      have e2 := congrArg Prod.fst e
      have e3 := congrArg Prod.snd e
      dsimp only at e2 e3
      exact Prod.ext (by omega) (by omega)
    obtain ⟨cs, hcs, hpm, hord⟩ := sort75 nd0
    refine ⟨⟨alike_rows _ 2 (fun k hk => by obtain ⟨p, _, rfl⟩ := List.mem_map.mp hk; rfl), sortable_rows _ (fun k hk => by obtain ⟨p, _, rfl⟩ := List.mem_map.mp hk; simp), depth_rows _⟩, ?_⟩
    rw [el, hcs]
    have cb : ∀ c ∈ cs, c.1 < 3 ∧ c.2 < 4 := fun c hc => by
      obtain ⟨p, hp, rfl⟩ := List.mem_map.mp (hpm.mem_iff.mp hc)
      have := hLb p hp
      exact ⟨by show p.1 - p0.1 < 3; omega, by show p.2 - p1.2 < 4; omega⟩
    have hcl := hpm.length_eq
    rw [List.length_map] at hcl
    have hLl := List.length_pos_iff.mpr hL
    have ne : cs ≠ [] := List.length_pos_iff.mp (by omega)
    obtain ⟨c1, hc1, m1⟩ := max_of (fun c => c.1) ne
    obtain ⟨c2, hc2, m2⟩ := max_of (fun c => c.2) ne
    have hb1 := cb c1 hc1
    have hb2 := cb c2 hc2
    refine fin_h2x t2 hl2 (q cs S2 ⟨hord, ⟨c1.1 + 1, c2.2 + 1, by omega, by omega, ⟨ne, by omega, fun c hc => ⟨Nat.lt_succ_of_le (m1 c hc), Nat.lt_succ_of_le (m2 c hc)⟩, ?_, ⟨c1, hc1, rfl⟩, ?_, ⟨c2, hc2, rfl⟩⟩⟩, by omega⟩ t2 hd2)
    · exact ⟨_, hpm.mem_iff.mpr (List.mem_map_of_mem hp0), Nat.sub_self _⟩
    · exact ⟨_, hpm.mem_iff.mpr (List.mem_map_of_mem hp1), Nat.sub_self _⟩
theorem ok__law_shape (T : Txt K mg base) : Ok3 P w K mg base 2 "_law_shape" sp__law_shape := by
  obtain ⟨f, fd, F, hm, hb⟩ := T.f__law_shape
  exact Ok3.mk' F hm hb sc__law_shape (fun ds S Q h => by simp only [sp__law_shape] at h; first | (obtain ⟨rfl, _⟩ := h; rfl) | (obtain ⟨_, rfl, _⟩ := h; rfl) | (obtain ⟨_, _, rfl, _⟩ := h; rfl) | (obtain ⟨_, _, _, rfl, _⟩ := h; rfl) | (obtain ⟨_, _, _, _, rfl, _⟩ := h; rfl) | (obtain ⟨_, _, _, _, _, rfl, _⟩ := h; rfl) | (obtain ⟨_, _, _, _, _, _, rfl, _⟩ := h; rfl) | (obtain ⟨_, _, _, _, _, _, _, rfl, _⟩ := h; rfl) | (obtain ⟨_, _, _, _, _, _, _, _, rfl, _⟩ := h; rfl) | (obtain ⟨_, _, _, _, _, _, _, _, _, rfl, _⟩ := h; rfl) | (obtain ⟨_, _, _, _, _, _, _, _, _, _, rfl, _⟩ := h; rfl) | exact h.2) (fun cdv A outer s H E hr => dv__law_shape T hr) rd__law_shape
def sp__law_window : Sp3 := fun ds S Q => ∃ (M w r c : Nat) (rows : List (List Int)) (cs : List (Nat × Nat)), ds = [.p (flo rows), .p (csD cs), .p (.int (r : Nat)), .p (.int (c : Nat))] ∧ Flo M w rows ∧ M ≤ 900 ∧ cs.length ≤ 16 ∧ r ≤ 1000 ∧ c ≤ 1000 ∧ (∀ k ∈ cs, k.1 ≤ 1000 ∧ k.2 ≤ 1000) ∧ Q (.p (tupI (winI w rows (cs.map plI) (r : Nat) (c : Nat)))) S
def t__law_window : TS3 := tSeq3 (tSet3 4 (tPure (tLc3 (tSeqI3 (tVar3 1)) (.tup (.cons (.nm 5) (.cons (.nm 6) (.nil)))) (tYes3) (tOp3 rIx3 (tVar3 0) (tOp3 rMod3 (tOp3 rAdd3 (tVar3 2) (tVar3 5)) (tCB3 (rLenA3) (tCons3 (tVar3 0) (tNil3))))) [5, 6]))) (tRet3 (tCB3 (rTupOf3) (tCons3 (tPure (tLc3 (tZipM3 (tCons3 (tVar3 4) (tCons3 (tVar3 1) (tNil3)))) (.tup (.cons (.nm 7) (.cons (.nm 8) (.nil)))) (tYes3) (tOp3 rIx3 (tVar3 7) (tOp3 rMod3 (tOp3 rAdd3 (tVar3 3) (tOp3 rIx3 (tVar3 8) (tC3 (.int 1)))) (tCB3 (rLenA3) (tCons3 (tVar3 7) (tNil3))))) [7, 8])) (tNil3))))
theorem dv__law_window (T : Txt K mg base) {f : Addr} {cdv : Value} {A : Around} {outer : List Env} {s : Shared} {H : Hp} {E : XK} (hr : Room 0 (A.deeper (envOfC "_law_window" (defScope s__law_window) s.heap.objs.size f cdv))) : QSs (cxOf CX0 P w K mg base nm__law_window "_law_window" (defScope s__law_window) f cdv A outer s H E).nox (defBody s__law_window) t__law_window :=
  qss_cons (qs_setLcP (i := 4) (own := [("_law_i", 5), ("_law_j", 6)]) rfl sc__law_window.nd rfl rfl (sw_true rfl rfl rfl (by decide +kernel)) (qi_seq (qv 1)) (blkOk_by (own := [("_law_i", 5), ("_law_j", 6)]) (N := nm__law_window) (sc := defScope s__law_window) (by decide +kernel)) (fun _ _ _ _ _ => qb_tup rfl (qbs_cons (qb_nm (i := 5) sc__law_window.nd rfl (by first | exact .inl rfl | exact .inr rfl)) (qbs_cons (qb_nm (i := 6) sc__law_window.nd rfl (by first | exact .inl rfl | exact .inr rfl)) (qbs_nil)))) (fun _ _ _ _ _ => qts_nil) (fun _ _ _ _ _ => qe_ix iq_seq (qv 0) (qe_op oq_mod (qe_op oq_add (qv 2) (qv 5)) (qe_cb cq_lenA (by rfl) T.b_len (by decide +kernel) (qa_cons (qv 0) (qa_nil)))))) (qss_one (qs_ret (qe_ty cq_tuple (by rfl) T.b_tuple (by decide +kernel) (qa_cons (qn_pure (qn_lc (own := [("_law_row", 7), ("_law_cell", 8)]) rfl sc__law_window.nd (qi_zipM (by rfl) T.b_zip (qa_cons (qv 4) (qa_cons (qv 1) (qa_nil)))) (blkOk_by (own := [("_law_row", 7), ("_law_cell", 8)]) (N := nm__law_window) (sc := defScope s__law_window) (by decide +kernel)) (fun _ _ _ _ _ => qb_tup rfl (qbs_cons (qb_nm (i := 7) sc__law_window.nd rfl (by first | exact .inl rfl | exact .inr rfl)) (qbs_cons (qb_nm (i := 8) sc__law_window.nd rfl (by first | exact .inl rfl | exact .inr rfl)) (qbs_nil)))) (fun _ _ _ _ _ => qts_nil) (fun _ _ _ _ _ => qe_ix iq_seq (qv 7) (qe_op oq_mod (qe_op oq_add (qv 3) (qe_ix iq_seq (qv 8) (qe_int))) (qe_cb cq_lenA (by rfl) T.b_len (by decide +kernel) (qa_cons (qv 7) (qa_nil))))))) (qa_nil)))))
theorem rd__law_window : ∀ ds S Q, sp__law_window ds S Q → t__law_window { nx := fun _ S' => Fin3 S Q (.p .none) S', rt := Fin3 S Q } (env0 9 ds) S := by
  rintro _ S Q ⟨M, w, r, c, rows, cs, rfl, F, hM, hcl, hr, hc, hk, q⟩
  have hrl := F.h_le
  have hwl := F.w_le
  have hh := F.hi
  have hw := F.wp
  unfold t__law_window flo csD
  walk_at "rd"
  refine ⟨fun i acc s => s = S ∧ acc = ((cs.take i).map fun k => rows.getD ((r + k.1) % rows.length) []).map tupI, ⟨rfl, rfl⟩, fun _ _ _ _ => trivial, ?_, ?_⟩
  · rintro i x acc s hx ⟨rfl, rfl⟩
    rw [List.getElem?_map] at hx
    obtain ⟨k, hk', rfl⟩ := Option.map_eq_some_iff.mp hx
    have hkb := hk k (List.mem_of_getElem? hk')
    unfold pD
    walk_at "rd"
    have hm := Nat.mod_lt (r + k.1) hh
    have hat : atI (rows.map tupI) (((r : Nat) : Int) + ((k.1 : Nat) : Int)) = none ∨ True := .inr trivial
    have hat2 : atI (rows.map tupI) ((((r : Nat) : Int) + ((k.1 : Nat) : Int)) % ((rows.length : Nat) : Int)) = some (tupI (rows.getD ((r + k.1) % rows.length) [])) := by
      rw [← Int.natCast_add, ← Int.natCast_emod]
      refine atI_nat ?_
      rw [List.getElem?_map, List.getElem?_eq_getElem hm, getD_at _ _ _ hm]
      rfl
    simp only [hat2]
    refine ⟨by omega, ?_⟩
    rw [take_one hk', List.map_append, List.map_append]
    rfl
  rintro acc s ⟨rfl, rfl⟩
  rw [List.take_length]
  walk_at "rd"
  have hwin : ∀ k ∈ cs, ((rows.getD ((r + k.1) % rows.length) []).map PyData.int)[(c + k.2) % w]? = some (.int (cellI w rows (((r : Nat) : Int) + k0 (plI k)) (((c : Nat) : Int) + k1 (plI k)))) := fun k _ => by
    have h1 := cellI_nat F (r + k.1) (c + k.2) (q := rows.getD ((r + k.1) % rows.length) []) (by
      have hm := Nat.mod_lt (r + k.1) hh
      rw [List.getElem?_eq_getElem hm, getD_at _ _ _ hm])
    rw [List.getElem?_map, h1]
    show some (PyData.int _) = some (PyData.int _)
    rw [Int.natCast_add, Int.natCast_add]
    rfl
  refine ⟨fun i acc s' => s' = s ∧ acc = ((winI w rows (cs.map plI) (r : Nat) (c : Nat)).take i).map PyData.int, ⟨rfl, rfl⟩, fun _ _ _ _ => trivial, ?_, ?_⟩
  · rintro i x acc s' hx ⟨rfl, rfl⟩
    obtain ⟨a, b, ha, hb, rfl⟩ := zip3_at hx
    rw [List.getElem?_map, List.getElem?_map] at ha
    rw [List.getElem?_map] at hb
    obtain ⟨k, hk', rfl⟩ := Option.map_eq_some_iff.mp hb
    rw [hk'] at ha
    have ha := Option.some.inj ha
    subst ha
    have hkb := hk k (List.mem_of_getElem? hk')
    have hcell := hwin k (List.mem_of_getElem? hk')
    have hm := Nat.mod_lt (r + k.1) hh
    have hrow : (rows.getD ((r + k.1) % rows.length) []).length = w := by rw [getD_at _ _ _ hm]; exact F.row hm
    have hwi : (winI w rows (cs.map plI) (r : Nat) (c : Nat))[i]? = some (cellI w rows (((r : Nat) : Int) + k0 (plI k)) (((c : Nat) : Int) + k1 (plI k))) := by
      unfold winI
      rw [List.getElem?_map, List.getElem?_map, hk']
      rfl
    unfold tupI pD
    walk_at "rd"
    have hat3 : atI ((rows.getD ((r + k.1) % rows.length) []).map PyData.int) ((((c : Nat) : Int) + ((k.2 : Nat) : Int)) % (((rows.getD ((r + k.1) % rows.length) []).length : Nat) : Int)) = some (.int (cellI w rows (((r : Nat) : Int) + k0 (plI k)) (((c : Nat) : Int) + k1 (plI k)))) := by
      rw [hrow, ← Int.natCast_add, ← Int.natCast_emod]
      exact atI_nat hcell
    simp only [hat3]
    refine ⟨by rw [hrow]; omega, ?_⟩
    rw [take_one hwi, List.map_append]
    rfl
  · rintro acc s' ⟨rfl, rfl⟩
    have hl : (winI w rows (cs.map plI) (r : Nat) (c : Nat)).length = cs.length := by unfold winI; rw [List.length_map, List.length_map]
    rw [zip3_ln, List.length_map, List.length_map, List.length_map, Nat.min_self, ← hl, List.take_length]
    exact fin_p q
theorem ok__law_window (T : Txt K mg base) : Ok3 P w K mg base 1 "_law_window" sp__law_window := by
  obtain ⟨f, fd, F, hm, hb⟩ := T.f__law_window
  exact Ok3.mk' F hm hb sc__law_window (fun ds S Q h => by simp only [sp__law_window] at h; first | (obtain ⟨rfl, _⟩ := h; rfl) | (obtain ⟨_, rfl, _⟩ := h; rfl) | (obtain ⟨_, _, rfl, _⟩ := h; rfl) | (obtain ⟨_, _, _, rfl, _⟩ := h; rfl) | (obtain ⟨_, _, _, _, rfl, _⟩ := h; rfl) | (obtain ⟨_, _, _, _, _, rfl, _⟩ := h; rfl) | (obtain ⟨_, _, _, _, _, _, rfl, _⟩ := h; rfl) | (obtain ⟨_, _, _, _, _, _, _, rfl, _⟩ := h; rfl) | (obtain ⟨_, _, _, _, _, _, _, _, rfl, _⟩ := h; rfl) | (obtain ⟨_, _, _, _, _, _, _, _, _, rfl, _⟩ := h; rfl) | (obtain ⟨_, _, _, _, _, _, _, _, _, _, rfl, _⟩ := h; rfl) | exact h.2) (fun cdv A outer s H E hr => dv__law_window T hr) rd__law_window
def sp__law_fits : Sp3 := fun ds S Q => ∃ (w : Nat) (rows : List (List Int)) (cs : List (Nat × Nat)) (os : List (Option Int)), ds = [.p (flo rows), .p (csD cs), .p (sen os)] ∧ Flo 600 w rows ∧ cs.length ≤ 16 ∧ (∀ k ∈ cs, k.1 ≤ 1000 ∧ k.2 ≤ 1000) ∧ Q (.p (.tuple (((places rows.length w).filter fun p => fitsB w rows (cs.map plI) os p.1 p.2).map pl))) S
def t__law_fits_b2 : TS3 := tSeq3 (tSet3 6 (tCB3 sp__law_window (tCons3 (tVar3 0) (tCons3 (tVar3 1) (tCons3 (tVar3 4) (tCons3 (tVar3 5) (tNil3))))))) (tIfS3 (tTest3 (tCB3 (rAll3) (tCons3 (tPure (tLc3 (tZipI3 (tCons3 (tVar3 2) (tCons3 (tVar3 6) (tNil3)))) (.tup (.cons (.nm 7) (.cons (.nm 8) (.nil)))) (tYes3) (tOrV3 (tOp3 rIs3 (tVar3 7) (tC3 .none)) (tOp3 rEqS3 (tVar3 7) (tVar3 8))) [7, 8])) (tNil3)))) (tDrop3 (tApp3 (tVar3 3) (tTup3 (tCons3 (tVar3 4) (tCons3 (tVar3 5) (tNil3)))))) (tNext3))
def t__law_fits_b1 : TS3 := tFor3 (tRng1 (tCons3 (tCB3 (rLenA3) (tCons3 (tOp3 rIx3 (tVar3 0) (tC3 (.int 0))) (tNil3))) (tNil3))) (.nm 5) (t__law_fits_b2)
def t__law_fits : TS3 := tSeq3 (tSet3 3 (tOwn (tLst3 (tNil3)))) (tSeq3 (tFor3 (tRng1 (tCons3 (tCB3 (rLenA3) (tCons3 (tVar3 0) (tNil3))) (tNil3))) (.nm 4) (t__law_fits_b1)) (tRet3 (tCB3 (rTupOf3) (tCons3 (tVar3 3) (tNil3)))))
theorem dv__law_fits (T : Txt K mg base) {f : Addr} {cdv : Value} {A : Around} {outer : List Env} {s : Shared} {H : Hp} {E : XK} (hr : Room 1 (A.deeper (envOfC "_law_fits" (defScope s__law_fits) s.heap.objs.size f cdv))) : QSs (cxOf CX0 P w K mg base nm__law_fits "_law_fits" (defScope s__law_fits) f cdv A outer s H E).nox (defBody s__law_fits) t__law_fits :=
  qss_cons (qs_set (i := 3) sc__law_fits.nd rfl (by first | exact .inl rfl | exact .inr rfl) (qn_own (qn_lst (qa_nil)))) (qss_cons (qs_for PassesOwn.never rfl (qi_range1 (by rfl) T.b_range (qa_cons (qe_cb cq_lenA (by rfl) T.b_len (by decide +kernel) (qa_cons (qv 0) (qa_nil))) (qa_nil))) (qb_nm (i := 4) sc__law_fits.nd rfl (by first | exact .inl rfl | exact .inr rfl)) (qss_one (qs_for PassesOwn.never rfl (qi_range1 (by rfl) T.b_range (qa_cons (qe_cb cq_lenA (by rfl) T.b_len (by decide +kernel) (qa_cons (qe_ix iq_seq (qv 0) (qe_int)) (qa_nil))) (qa_nil))) (qb_nm (i := 5) sc__law_fits.nd rfl (by first | exact .inl rfl | exact .inr rfl)) (qss_cons (qs_set (i := 6) sc__law_fits.nd rfl (by first | exact .inl rfl | exact .inr rfl) (qe_call (ok__law_window T) (hr.mono (by decide)) (by rfl) (qa_cons (qv 0) (qa_cons (qv 1) (qa_cons (qv 4) (qa_cons (qv 5) (qa_nil))))))) (qss_one (qs_if (qt_val (qe_cb (cq_all rfl) (by rfl) T.b_all (by decide +kernel) (qa_cons (qn_pure (qn_lc (own := [("_law_told", 7), ("_law_sign", 8)]) rfl sc__law_fits.nd (qi_zip rfl (by rfl) T.b_zip (qa_cons (qv 2) (qa_cons (qv 6) (qa_nil)))) (blkOk_by (own := [("_law_told", 7), ("_law_sign", 8)]) (N := nm__law_fits) (sc := defScope s__law_fits) (by decide +kernel)) (fun _ _ _ _ _ => qb_tup rfl (qbs_cons (qb_nm (i := 7) sc__law_fits.nd rfl (by first | exact .inl rfl | exact .inr rfl)) (qbs_cons (qb_nm (i := 8) sc__law_fits.nd rfl (by first | exact .inl rfl | exact .inr rfl)) (qbs_nil)))) (fun _ _ _ _ _ => qts_nil) (fun _ _ _ _ _ => qe_or (qe_cmp oq_is (qv 7) (qe_non)) (qe_one (qe_cmp (oq_eqS hr.units) (qv 7) (qv 8)))))) (qa_nil)))) (qss_one (qs_expr (qe_append (qv 3) (qe_tup (qa_cons (qv 4) (qa_cons (qv 5) (qa_nil))))))) (qss_nil))))))) (qss_one (qs_ret (qe_ty cq_tuple (by rfl) T.b_tuple (by decide +kernel) (qa_cons (qv 3) (qa_nil))))))
theorem rd__law_fits : ∀ ds S Q, sp__law_fits ds S Q → t__law_fits { nx := fun _ S' => Fin3 S Q (.p .none) S', rt := Fin3 S Q } (env0 9 ds) S := by
  rintro _ S Q ⟨w, rows, cs, os, rfl, F, hcl, hk, q⟩
  have hrl := F.h_le
  have hwl := F.w_le
  have hh := F.hi
  have hw := F.wp
  obtain ⟨r0, h0⟩ : ∃ r0, rows[0]? = some r0 := ⟨_, List.getElem?_eq_getElem hh⟩
  have h0l := F.wd r0 (List.mem_of_getElem? h0)
  have e0 : (rows.map tupI)[0]? = some (.tuple (r0.map PyData.int)) := by rw [List.getElem?_map, h0]; rfl
  have g : ∀ x : Option O3, (S ++ [x])[S.length]? = some x := fun x => by simp
  have gs : ∀ x y : Option O3, (S ++ [x]).set S.length y = S ++ [y] := fun x y => by simp
  unfold t__law_fits flo
  walk_at "rd"
  refine ⟨by omega, fun i e s => ∃ z4 z5 z6 : Option D, e = [some (.p (.tuple (rows.map tupI))), some (.p (csD cs)), some (.p (sen os)), some (.loc S.length), z4, z5, z6, none, none] ∧ s = S ++ [some (.lst (((places i w).filter fun p => fitsB w rows (cs.map plI) os p.1 p.2).map pl))], ⟨none, none, none, rfl, rfl⟩, fun _ _ _ _ => trivial, ?_, ?_⟩
  · rintro i x e s hx ⟨z4, z5, z6, rfl, rfl⟩
    obtain ⟨hi, rfl⟩ := rng_get hx
    have hi : i < rows.length := by omega
    unfold t__law_fits_b1
    walk_at "rd"
    simp only [e0]
    walk_at "rd"
    rw [h0l]
    refine ⟨by omega, fun j e s => ∃ z5 z6 : Option D, j ≤ w ∧ e = [some (.p (.tuple (rows.map tupI))), some (.p (csD cs)), some (.p (sen os)), some (.loc S.length), some (.p (.int ((i : Nat) : Int))), z5, z6, none, none] ∧ s = S ++ [some (.lst (((places i w ++ (List.range j).map fun c => (i, c)).filter fun p => fitsB w rows (cs.map plI) os p.1 p.2).map pl))], ?_, fun _ _ _ _ => trivial, ?_, ?_⟩
    · exact ⟨_, _, Nat.zero_le _, by rw [Int.zero_add], by simp⟩
    · rintro j x e s hx ⟨z5, z6, _, rfl, rfl⟩
      obtain ⟨hj, rfl⟩ := rng_get hx
      have hj : j < w := by omega
      unfold t__law_fits_b2 sp__law_window
      walk_at "rd"
      refine ⟨600, w, i, j, rows, cs, by rw [Int.zero_add]; rfl, F, by decide, hcl, by omega, by omega, hk, ?_⟩
      have hlw : (winI w rows (cs.map plI) (i : Nat) (j : Nat)).length = cs.length := by unfold winI; rw [List.length_map, List.length_map]
      unfold tupI sen
      walk_at "rd"
      refine ⟨fun a acc s => s = S ++ [some (.lst (((places i w ++ (List.range j).map fun c => (i, c)).filter fun p => fitsB w rows (cs.map plI) os p.1 p.2).map pl))] ∧ acc = (((os.zip (winI w rows (cs.map plI) (i : Nat) (j : Nat))).take a).map fun p => match p.1 with | none => true | some x => decide (x = p.2)).map PyData.bool, ⟨rfl, rfl⟩, fun _ _ _ _ => trivial, ?_, ?_⟩
      · rintro a x acc s hx ⟨rfl, rfl⟩
        obtain ⟨u, v, hu, hv, rfl⟩ := zip3_at hx
        rw [List.getElem?_map] at hu hv
        obtain ⟨o, ho, rfl⟩ := Option.map_eq_some_iff.mp hu
        obtain ⟨y, hy, rfl⟩ := Option.map_eq_some_iff.mp hv
        have hz : (os.zip (winI w rows (cs.map plI) (i : Nat) (j : Nat)))[a]? = some (o, y) := List.getElem?_zip_eq_some.mpr ⟨ho, hy⟩
        walk_at "rd"
        cases o with
        | none =>
          simp only [show opt none = PyData.none from rfl, if_true]
          rw [take_one hz, List.map_append, List.map_append]
          rfl
        | some z =>
          simp only [show opt (some z) = PyData.int z from rfl, Bool.false_eq_true, if_false]
          rw [take_one hz, List.map_append, List.map_append, eqv_ints1]
          exact ⟨⟨rfl, rfl⟩, rfl⟩
      · rintro acc s ⟨rfl, rfl⟩
        have hpl : (((places i w ++ (List.range j).map fun c => (i, c)).filter fun p => fitsB w rows (cs.map plI) os p.1 p.2).map pl).length < 16777216 := by
          rw [List.length_map]
          have h1 := List.length_filter_le (fun p : Nat × Nat => fitsB w rows (cs.map plI) os p.1 p.2) (places i w ++ (List.range j).map fun c => (i, c))
          rw [List.length_append, places_len, List.length_map, List.length_range] at h1
          have := Nat.mul_le_mul (show i ≤ 600 by omega) (show w ≤ 600 by omega)
          omega
        have hall : (((os.zip (winI w rows (cs.map plI) (i : Nat) (j : Nat))).map fun p => match p.1 with | none => true | some x => decide (x = p.2)).all id) = fitsB w rows (cs.map plI) os (i : Nat) (j : Nat) := by
          rw [← fitL_fits]
          unfold fitL
          rw [List.all_map]
          rfl
        rw [zip3_ln, List.length_map, List.length_map, ← List.length_zip, List.take_length, allP_bls]
        dsimp only
        rw [hall]
        have hstep : ((places i w ++ (List.range (j + 1)).map fun c => (i, c)).filter fun p => fitsB w rows (cs.map plI) os p.1 p.2) = ((places i w ++ (List.range j).map fun c => (i, c)).filter fun p => fitsB w rows (cs.map plI) os p.1 p.2) ++ (if fitsB w rows (cs.map plI) os (i : Nat) (j : Nat) = true then [(i, j)] else []) := by
          rw [List.range_succ, List.map_append, ← List.append_assoc, List.filter_append]
          congr 1
          rw [List.map_singleton, List.filter_cons, List.filter_nil]
        cases hf : fitsB w rows (cs.map plI) os (i : Nat) (j : Nat) with
        | true =>
          rw [if_pos rfl]
          simp only [g, gs]
          refine ⟨hpl, wk_self ⟨_, _, by omega, rfl, ?_⟩⟩
          rw [hstep, hf, if_pos rfl, List.map_append, Int.zero_add]
          rfl
        | false =>
          rw [if_neg (by decide)]
          exact wk_self ⟨_, _, by omega, rfl, by rw [hstep, hf, if_neg (by decide), List.append_nil]⟩
    · rintro e s ⟨z5, z6, _, rfl, rfl⟩
      rw [rng_len, Int.toNat_natCast, ← places_succ]
      exact wk_self ⟨_, _, _, rfl, rfl⟩
  · rintro e s ⟨z4, z5, z6, rfl, rfl⟩
    rw [rng_len, Int.toNat_natCast]
    walk_at "rd"
    simp only [g]
    exact fin_app q
theorem ok__law_fits (T : Txt K mg base) : Ok3 P w K mg base 2 "_law_fits" sp__law_fits := by
  obtain ⟨f, fd, F, hm, hb⟩ := T.f__law_fits
  exact Ok3.mk' F hm hb sc__law_fits (fun ds S Q h => by simp only [sp__law_fits] at h; first | (obtain ⟨rfl, _⟩ := h; rfl) | (obtain ⟨_, rfl, _⟩ := h; rfl) | (obtain ⟨_, _, rfl, _⟩ := h; rfl) | (obtain ⟨_, _, _, rfl, _⟩ := h; rfl) | (obtain ⟨_, _, _, _, rfl, _⟩ := h; rfl) | (obtain ⟨_, _, _, _, _, rfl, _⟩ := h; rfl) | (obtain ⟨_, _, _, _, _, _, rfl, _⟩ := h; rfl) | (obtain ⟨_, _, _, _, _, _, _, rfl, _⟩ := h; rfl) | (obtain ⟨_, _, _, _, _, _, _, _, rfl, _⟩ := h; rfl) | (obtain ⟨_, _, _, _, _, _, _, _, _, rfl, _⟩ := h; rfl) | (obtain ⟨_, _, _, _, _, _, _, _, _, _, rfl, _⟩ := h; rfl) | exact h.2) (fun cdv A outer s H E hr => dv__law_fits T hr) rd__law_fits
def sp_law : Sp3 := spLaw3
def t_law_b2_r6 : TS3 := tIfS3 (tTest3 (tOp3 rNeS3 (tVar3 12) (tCB3 sp__law_fits (tCons3 (tVar3 3) (tCons3 (tVar3 4) (tCons3 (tVar3 9) (tNil3))))))) (tRet3 (tC3 (.bool false))) (tNext3)
def t_law_b2_r5 : TS3 := tSeq3 (tIfS3 (tOr3 (tTest3 (tOp3 rNeS3 (tVar3 10) (tVar3 4))) (tOr3 (tTest3 (tOp3 rNeS3 (tVar3 11) (tVar3 9))) (tTest3 (tOp3 (rInA3 true) (tTup3 (tCons3 (tVar3 6) (tCons3 (tVar3 7) (tNil3)))) (tVar3 12))))) (tRet3 (tC3 (.bool false))) (tNext3)) (t_law_b2_r6)
def t_law_b2_r4 : TS3 := tSeq3 (tSet3 12 (tCB3 sp_places_of (tCons3 (tVar3 5) (tCons3 (tVar3 10) (tCons3 (tVar3 11) (tNil3)))))) (t_law_b2_r5)
def t_law_b2_r3 : TS3 := tSeq3 (tAsgT3 (tCB3 sp_read_seen (tCons3 (tCB3 sp_show_seen (tCons3 (tVar3 4) (tCons3 (tVar3 9) (tNil3)))) (tNil3))) (.tup (.cons (.nm 10) (.cons (.nm 11) (.nil))))) (t_law_b2_r4)
def t_law_b2 : TS3 := tSeq3 (tSet3 7 (tCB3 sp__law_take (tCons3 (tVar3 2) (tCons3 (tCB3 (rLenA3) (tCons3 (tOp3 rIx3 (tVar3 3) (tC3 (.int 0))) (tNil3))) (tNil3))))) (tSeq3 (tSet3 8 (tCB3 sp__law_take (tCons3 (tVar3 2) (tCons3 (tC3 (.int 4)) (tNil3))))) (tSeq3 (tSet3 9 (tCB3 (rTupOf3) (tCons3 (tPure (tLc3 (tSeqI3 (tCB3 sp_window (tCons3 (tVar3 5) (tCons3 (tVar3 4) (tCons3 (tTup3 (tCons3 (tVar3 6) (tCons3 (tVar3 7) (tNil3)))) (tNil3)))))) (.nm 18) (tYes3) (tIf3 (tTest3 (tOp3 rLtD3 (tCB3 sp__law_take (tCons3 (tVar3 2) (tCons3 (tC3 (.int 5)) (tNil3)))) (tVar3 8))) (tC3 .none) (tVar3 18)) [18])) (tNil3)))) (t_law_b2_r3)))
def t_law_b1_r5 : TS3 := tIfS3 (tTest3 (tOp3 rLe3 (tOp3 rMulT3 (tCB3 (rLenA3) (tCons3 (tVar3 3) (tNil3))) (tCB3 (rLenA3) (tCons3 (tOp3 rIx3 (tVar3 3) (tC3 (.int 0))) (tNil3)))) (tC3 (.int 16)))) (tSeq3 (tAsgT3 (tCB3 sp_read_seen (tCons3 (tCB3 sp_show_floor (tCons3 (tVar3 3) (tNil3))) (tNil3))) (.tup (.cons (.nm 13) (.cons (.nm 14) (.nil))))) (tSeq3 (tSet3 15 (tCB3 (rLenA3) (tCons3 (tOp3 rIx3 (tVar3 3) (tC3 (.int 0))) (tNil3)))) (tSeq3 (tSet3 16 (tPure (tLc3 (tRg3 (tCons3 (tC3 (.int 0)) (tCons3 (tCB3 (rLenA3) (tCons3 (tVar3 14) (tNil3))) (tCons3 (tVar3 15) (tNil3))))) (.nm 17) (tYes3) (tSl3 (tVar3 14) (tPart3 (tVar3 17)) (tPart3 (tOp3 rAdd3 (tVar3 17) (tVar3 15)))) [17]))) (tSeq3 (tIfS3 (tTest3 (tOp3 rNeS3 (tCB3 (rTupOf3) (tCons3 (tVar3 16) (tNil3))) (tVar3 3))) (tRet3 (tC3 (.bool false))) (tNext3)) (tIfS3 (tTest3 (tOp3 rNeS3 (tCB3 sp_places_of (tCons3 (tVar3 3) (tCons3 (tVar3 13) (tCons3 (tVar3 14) (tNil3))))) (tCB3 sp__law_fits (tCons3 (tVar3 3) (tCons3 (tVar3 13) (tCons3 (tVar3 14) (tNil3))))))) (tRet3 (tC3 (.bool false))) (tNext3)))))) (tNext3)
def t_law_b1_r4 : TS3 := tSeq3 (tFor3 (tRng1 (tCons3 (tCB3 (rLenA3) (tCons3 (tVar3 3) (tNil3))) (tNil3))) (.nm 6) (t_law_b2)) (t_law_b1_r5)
def t_law_b1_r3 : TS3 := tSeq3 (tIfS3 (tTest3 (tOp3 rNeS3 (tCB3 sp_read_shape (tCons3 (tCB3 sp_show_shape (tCons3 (tVar3 4) (tNil3))) (tNil3))) (tVar3 4))) (tRet3 (tC3 (.bool false))) (tNext3)) (t_law_b1_r4)
def t_law_b1_r2 : TS3 := tSeq3 (tSet3 5 (tCB3 sp_read_floor (tCons3 (tCB3 sp_show_floor (tCons3 (tVar3 3) (tNil3))) (tNil3)))) (t_law_b1_r3)
def t_law_b1 : TS3 := tSeq3 (tSet3 2 (tCB3 sp__law_pot (tCons3 (tVar3 0) (tCons3 (tVar3 1) (tNil3))))) (tSeq3 (tPr3 3 4 (tCons3 (tCB3 sp__law_floor (tCons3 (tVar3 2) (tNil3))) (tCons3 (tCB3 sp__law_shape (tCons3 (tVar3 2) (tNil3))) (tNil3)))) (t_law_b1_r2))
def t_law : TS3 := tSeq3 (tFor3 (tRng1 (tCons3 (tOp3 rAdd3 (tC3 (.int 1)) (tCB3 (rInt2 (fun i j => if j < i then j else i)) (tCons3 (tC3 (.int 4)) (tCons3 (tCB3 (rLenA3) (tCons3 (tVar3 0) (tNil3))) (tNil3))))) (tNil3))) (.nm 1) (t_law_b1)) (tRet3 (tC3 (.bool true)))
theorem dv_law (T : Txt K mg base) {f : Addr} {cdv : Value} {A : Around} {outer : List Env} {s : Shared} {H : Hp} {E : XK} (hgd : A.guards = some []) (hr : Room 3 (A.deeper (envOfC "law" (defScope s_law) s.heap.objs.size f cdv))) : QSs (cxOf CX0 P w K mg base nm_law "law" (defScope s_law) f cdv A outer s H E).nox (defBody s_law) t_law :=
  qss_cons (qs_for PassesOwn.never rfl (qi_range1 (by rfl) T.b_range (qa_cons (qe_op oq_add (qe_int) (qe_cb (cq_min2 rfl) (by rfl) T.b_min (by decide +kernel) (qa_cons (qe_int) (qa_cons (qe_cb cq_lenA (by rfl) T.b_len (by decide +kernel) (qa_cons (qv 0) (qa_nil))) (qa_nil))))) (qa_nil))) (qb_nm (i := 1) sc_law.nd rfl (by first | exact .inl rfl | exact .inr rfl)) (qss_cons (qs_set (i := 2) sc_law.nd rfl (by first | exact .inl rfl | exact .inr rfl) (qe_call (ok__law_pot T) (hr.mono (by decide)) (by rfl) (qa_cons (qv 0) (qa_cons (qv 1) (qa_nil))))) (qss_cons (qs_par (i := 3) (j := 4) rfl sc_law.nd rfl rfl (by decide) rfl rfl (qa_cons (qe_call (ok__law_floor T) (hr.mono (by decide)) (by rfl) (qa_cons (qv 2) (qa_nil))) (qa_cons (qe_call (ok__law_shape T) (hr.mono (by decide)) (by rfl) (qa_cons (qv 2) (qa_nil))) (qa_nil))) (by rfl)) (qss_cons (qs_set (i := 5) sc_law.nd rfl (by first | exact .inl rfl | exact .inr rfl) (qe_call (ok_read_floor T) (hr.mono (by decide)) (by rfl) (qa_cons (qe_call (ok_show_floor T) (hr.mono (by decide)) (by rfl) (qa_cons (qv 3) (qa_nil))) (qa_nil)))) (qss_cons (qs_if (qt_cmp (oq_neS hr.units) (qe_call (ok_read_shape T) (hr.mono (by decide)) (by rfl) (qa_cons (qe_call (ok_show_shape T) (hr.mono (by decide)) (by rfl) (qa_cons (qv 4) (qa_nil))) (qa_nil))) (qv 4)) (qss_one (qs_ret (qe_bl))) (qss_nil)) (qss_cons (qs_for PassesOwn.never rfl (qi_range1 (by rfl) T.b_range (qa_cons (qe_cb cq_lenA (by rfl) T.b_len (by decide +kernel) (qa_cons (qv 3) (qa_nil))) (qa_nil))) (qb_nm (i := 6) sc_law.nd rfl (by first | exact .inl rfl | exact .inr rfl)) (qss_cons (qs_set (i := 7) sc_law.nd rfl (by first | exact .inl rfl | exact .inr rfl) (qe_call (ok__law_take T) (hr.mono (by decide)) (by rfl) (qa_cons (qv 2) (qa_cons (qe_cb cq_lenA (by rfl) T.b_len (by decide +kernel) (qa_cons (qe_ix iq_seq (qv 3) (qe_int)) (qa_nil))) (qa_nil))))) (qss_cons (qs_set (i := 8) sc_law.nd rfl (by first | exact .inl rfl | exact .inr rfl) (qe_call (ok__law_take T) (hr.mono (by decide)) (by rfl) (qa_cons (qv 2) (qa_cons (qe_int) (qa_nil))))) (qss_cons (qs_set (i := 9) sc_law.nd rfl (by first | exact .inl rfl | exact .inr rfl) (qe_ty cq_tuple (by rfl) T.b_tuple (by decide +kernel) (qa_cons (qn_pure (qn_lc (own := [("_law_sign", 18)]) rfl sc_law.nd (qi_seq (qe_call (ok_window T) (hr.mono (by decide)) (by rfl) (qa_cons (qv 5) (qa_cons (qv 4) (qa_cons (qe_tup (qa_cons (qv 6) (qa_cons (qv 7) (qa_nil)))) (qa_nil)))))) (blkOk_by (own := [("_law_sign", 18)]) (N := nm_law) (sc := defScope s_law) (by decide +kernel)) (fun _ _ _ _ _ => qb_nm (i := 18) sc_law.nd rfl (by first | exact .inl rfl | exact .inr rfl)) (fun _ _ _ _ _ => qts_nil) (fun _ _ _ _ _ => qe_if (qt_cmp (oq_ltD hr.units) (qe_call (ok__law_take T) (hr.mono (by decide)) (by rfl) (qa_cons (qv 2) (qa_cons (qe_int) (qa_nil)))) (qv 8)) (qe_non) (qv 18)))) (qa_nil)))) (qss_cons (qs_asgT (qe_call (ok_read_seen T) (hr.mono (by decide)) (by rfl) (qa_cons (qe_call (ok_show_seen T) (hr.mono (by decide)) (by rfl) (qa_cons (qv 4) (qa_cons (qv 9) (qa_nil)))) (qa_nil))) (qb_tup rfl (qbs_cons (qb_nm (i := 10) sc_law.nd rfl (by first | exact .inl rfl | exact .inr rfl)) (qbs_cons (qb_nm (i := 11) sc_law.nd rfl (by first | exact .inl rfl | exact .inr rfl)) (qbs_nil))))) (qss_cons (qs_set (i := 12) sc_law.nd rfl (by first | exact .inl rfl | exact .inr rfl) (qe_call (ok_places_of T) (hr.mono (by decide)) (by rfl) (qa_cons (qv 5) (qa_cons (qv 10) (qa_cons (qv 11) (qa_nil)))))) (qss_cons (qs_if (qt_w (qw_or (qt_cmp (oq_neS hr.units) (qv 10) (qv 4)) (qw_or (qt_cmp (oq_neS hr.units) (qv 11) (qv 9)) (qw_or1 (qt_cmp (oq_notinA hr.un65) (qe_tup (qa_cons (qv 6) (qa_cons (qv 7) (qa_nil)))) (qv 12)))))) (qss_one (qs_ret (qe_bl))) (qss_nil)) (qss_one (qs_if (qt_cmp (oq_neS hr.units) (qv 12) (qe_call (ok__law_fits T) (hr.mono (by decide)) (by rfl) (qa_cons (qv 3) (qa_cons (qv 4) (qa_cons (qv 9) (qa_nil)))))) (qss_one (qs_ret (qe_bl))) (qss_nil)))))))))) (qss_one (qs_if (qt_cmp oq_le (qe_op oq_mulT (qe_cb cq_lenA (by rfl) T.b_len (by decide +kernel) (qa_cons (qv 3) (qa_nil))) (qe_cb cq_lenA (by rfl) T.b_len (by decide +kernel) (qa_cons (qe_ix iq_seq (qv 3) (qe_int)) (qa_nil)))) (qe_int)) (qss_cons (qs_asgT (qe_call (ok_read_seen T) (hr.mono (by decide)) (by rfl) (qa_cons (qe_call (ok_show_floor T) (hr.mono (by decide)) (by rfl) (qa_cons (qv 3) (qa_nil))) (qa_nil))) (qb_tup rfl (qbs_cons (qb_nm (i := 13) sc_law.nd rfl (by first | exact .inl rfl | exact .inr rfl)) (qbs_cons (qb_nm (i := 14) sc_law.nd rfl (by first | exact .inl rfl | exact .inr rfl)) (qbs_nil))))) (qss_cons (qs_set (i := 15) sc_law.nd rfl (by first | exact .inl rfl | exact .inr rfl) (qe_cb cq_lenA (by rfl) T.b_len (by decide +kernel) (qa_cons (qe_ix iq_seq (qv 3) (qe_int)) (qa_nil)))) (qss_cons (qs_setLcP (i := 16) (own := [("_law_at", 17)]) rfl sc_law.nd rfl rfl (sw_true rfl rfl rfl (by decide +kernel)) (qi_range3 (by rfl) T.b_range (qa_cons (qe_int) (qa_cons (qe_cb cq_lenA (by rfl) T.b_len (by decide +kernel) (qa_cons (qv 14) (qa_nil))) (qa_cons (qv 15) (qa_nil))))) (blkOk_by (own := [("_law_at", 17)]) (N := nm_law) (sc := defScope s_law) (by decide +kernel)) (fun _ _ _ _ _ => qb_nm (i := 17) sc_law.nd rfl (by first | exact .inl rfl | exact .inr rfl)) (fun _ _ _ _ _ => qts_nil) (fun _ _ _ _ _ => qe_slice (qv 14) (qo_some (qv 17)) (qo_some (qe_op oq_add (qv 17) (qv 15))))) (qss_cons (qs_if (qt_cmp (oq_neS hr.units) (qe_ty cq_tuple (by rfl) T.b_tuple (by decide +kernel) (qa_cons (qv 16) (qa_nil))) (qv 3)) (qss_one (qs_ret (qe_bl))) (qss_nil)) (qss_one (qs_if (qt_cmp (oq_neS hr.units) (qe_call (ok_places_of T) (hr.mono (by decide)) (by rfl) (qa_cons (qv 3) (qa_cons (qv 13) (qa_cons (qv 14) (qa_nil))))) (qe_call (ok__law_fits T) (hr.mono (by decide)) (by rfl) (qa_cons (qv 3) (qa_cons (qv 13) (qa_cons (qv 14) (qa_nil)))))) (qss_one (qs_ret (qe_bl))) (qss_nil))))))) (qss_nil))))))))) (qss_one (qs_ret (qe_bl)))
theorem rd_law : ∀ ds S Q, sp_law ds S Q → t_law { nx := fun _ S' => Fin3 S Q (.p .none) S', rt := Fin3 S Q } (env0 19 ds) S := by
  rintro _ S Q ⟨ns, rfl, hl, rfl, q⟩
  unfold t_law
  walk_at "rd"
  refine ⟨by (repeat split) <;> omega, ?_⟩
  refine ⟨fun i e s => s = [] ∧ e = [some (.p (.list (ns.map PyData.int))), none, none, none, none, none, none, none, none, none, none, none, none, none, none, none, none, none, none], ⟨rfl, rfl⟩, fun _ _ _ _ => trivial, ?_, ?_⟩
  · rintro i d e s hd ⟨rfl, rfl⟩
    obtain ⟨hi, rfl⟩ := rng_get hd
    have hi2 : i < 6 := by
      have : (1 + (if (ns.length : Int) < 4 then (ns.length : Int) else (4 : Int))) ≤ 5 := by (repeat split) <;> omega
      omega
    unfold t_law_b1 sp__law_pot sp__law_floor sp__law_shape
    walk_at "rd"
    refine ⟨ns, _, rfl, hl, by omega, by omega, fun S0 hd0 _ hlen => ?_⟩
    have hlen : S0.length = 1 := hlen
    refine ⟨0, rfl, hd0, fun w T S1 A hT6 hw30 t1 hd1 => ⟨0, rfl, hd1, fun cs S2 K t2 hd2 => ?_⟩⟩
    have l2 : S2.length = 1 := by rw [t2.len, t1.len]; exact hlen
    obtain ⟨H, W, hH, hW, C⟩ := K.ck
    obtain ⟨H0, W0⟩ := Sh7.pos C
    have F := A.toFlo
    have hkb : ∀ k ∈ cs, k.1 ≤ 1000 ∧ k.2 ≤ 1000 := fun k hk => by
      have := C.bd k hk
      omega
    have hkf : ∀ k ∈ cs.map plI, ∃ i j : Int, k = [i, j] := fun k hk => by
      obtain ⟨p, _, rfl⟩ := List.mem_map.mp hk
      exact ⟨_, _, rfl⟩
    unfold t_law_b1_r2 sp_read_floor sp_show_floor sp_show_torn
    walk_at "rd"
    refine ⟨w, _, rfl, A, w, T, rfl, A, ?_⟩
    unfold t_law_b1_r3 sp_read_shape sp_show_shape
    walk_at "rd"
    refine ⟨H, W, cs, rfl, K.nd, C, by omega, by omega, ?_⟩
    rw [rep_zip]
    have hrep : (List.replicate cs.length (none : Option Nat)).length = cs.length := List.length_replicate
    have P0 := picOf_ok (L := cs.zip (List.replicate cs.length (none : Option Nat))) H0 W0 (by omega) (by omega) fun x hx y e => by
      have := (List.mem_replicate.mp (List.of_mem_zip hx).2).2
      rw [this] at e
      cases e
    have B0 := pic_two K.ord C hrep
    refine ⟨W, _, rfl, P0, by rw [B0, pic_len, cs_fst _ _ hrep]; exact C, ?_⟩
    rw [B0, cs_fst _ _ hrep]
    have sc := shaped_csD cs
    unfold csD at sc
    unfold csD
    walk_at "rd"
    refine ⟨sc, ?_⟩
    rw [self_eq sc, if_neg (by decide)]
    have hT := tor_flo T
    rw [hT]
    have hRl : (T.map rwI).length = T.length := List.length_map _
    generalize hRW : T.map rwI = RW at hT F hRl
    have hh := F.hi
    have hwl := F.w_le
    have w0 := F.wp
    obtain ⟨r0, h0⟩ : ∃ r0, RW[0]? = some r0 := ⟨_, List.getElem?_eq_getElem hh⟩
    have h0l := F.wd r0 (List.mem_of_getElem? h0)
    have e0 : (RW.map tupI)[0]? = some (.tuple (r0.map PyData.int)) := by rw [List.getElem?_map, h0]; rfl
    unfold t_law_b1_r4 flo
    walk_at "rd"
    refine ⟨by omega, fun j e s => ∃ z6 z7 z8 z9 z10 z11 z12 : Option D, H2 s 0 ∧ s.length = 1 ∧ e = [some (.p (.list (ns.map PyData.int))), some (.p (.int (0 + (i : Nat)))), some (.loc 0), some (.p (.tuple (RW.map tupI))), some (.p (.tuple (cs.map pD))), some (.p (.tuple (RW.map tupI))), z6, z7, z8, z9, z10, z11, z12, none, none, none, none, none, none], ⟨_, _, _, _, _, _, _, hd2, l2, rfl⟩, fun _ _ _ _ => trivial, ?_, ?_⟩
    · rintro j x e s hx ⟨z6, z7, z8, z9, z10, z11, z12, hd3, l3, rfl⟩
      obtain ⟨hj, rfl⟩ := rng_get hx
      have hj : j < RW.length := by omega
      unfold t_law_b2 sp__law_take sp_window
      walk_at "rd"
      simp only [e0]
      walk_at "rd"
      rw [h0l]
      refine ⟨0, (w : Nat), rfl, by omega, by omega, hd3, fun d4 S4 a4 b4 t4 hd4 => ?_⟩
      obtain ⟨c, rfl⟩ := Int.eq_ofNat_of_zero_le a4
      refine ⟨0, 4, rfl, by decide, by decide, hd4, fun d5 S5 a5 b5 t5 hd5 => ?_⟩
      refine ⟨600, w, RW, cs.map plI, ((j : Nat) : Int), ((c : Nat) : Int), by rw [Int.zero_add, ← csD_shp]; rfl, F, hkf, ?_⟩
      have l5 : S5.length = 1 := by rw [t5.len, t4.len]; exact l3
      have hwn : (winI w RW (cs.map plI) (j : Nat) (c : Nat)).length = cs.length := by unfold winI; rw [List.length_map, List.length_map]
      have hws : ∀ y ∈ winI w RW (cs.map plI) (j : Nat) (c : Nat), 0 ≤ y ∧ y < 36 := fun y hy => by
        obtain ⟨k, _, rfl⟩ := List.mem_map.mp hy
        obtain ⟨_, _, _, _, _, rfl, h36⟩ := F.cell (((j : Nat) : Int) + k0 k) (((c : Nat) : Int) + k1 k)
        exact h36
      generalize hWI : winI w RW (cs.map plI) (j : Nat) (c : Nat) = WI at hwn hws
      rw [show tupI WI = .tuple (WI.map PyData.int) from rfl]
      walk_at "rd"
      refine ⟨fun a acc s => ∃ os : List (Option Nat), H2 s 0 ∧ s.length = 1 ∧ os.length = a ∧ acc = os.map optN ∧ (∀ o ∈ os, ∀ x, o = some x → x < 36) ∧ fitL (os.map fun o => o.map fun (x : Nat) => ((x : Nat) : Int)) (WI.take a) = true, ⟨[], hd5, l5, rfl, rfl, by simp, rfl⟩, fun _ _ _ _ => trivial, ?_, ?_⟩
      · rintro a x acc s hx ⟨os, hd6, l6, hol, rfl, hsg, hfit⟩
        rw [List.getElem?_map] at hx
        obtain ⟨y, hy, rfl⟩ := Option.map_eq_some_iff.mp hx
        have hy36 := hws y (List.mem_of_getElem? hy)
        have hal := (List.getElem?_eq_some_iff.mp hy).1
        obtain ⟨yn, rfl⟩ := Int.eq_ofNat_of_zero_le hy36.1
        have hln : (os.map fun o => o.map fun (x : Nat) => ((x : Nat) : Int)).length = (WI.take a).length := by rw [List.length_map, List.length_take]; omega
        refine ⟨0, 5, rfl, by decide, by decide, hd6, fun d7 S7 a7 b7 t7 hd7 => ?_⟩
        have l7 : S7.length = 1 := by rw [t7.len]; exact l6
        by_cases hlt : d7 < d5
        · rw [if_pos hlt]
          refine ⟨os ++ [none], hd7, l7, by rw [List.length_append, hol]; rfl, by rw [List.map_append]; rfl, fun o ho x e => ?_, ?_⟩
          · rcases List.mem_append.mp ho with ho | ho
            · exact hsg o ho x e
            · rw [List.mem_singleton.mp ho] at e
              cases e
          · rw [take_one hy, List.map_append]
            exact fitL_snoc hln (fun x e => by cases e) hfit
        · rw [if_neg hlt]
          refine ⟨os ++ [some yn], hd7, l7, by rw [List.length_append, hol]; rfl, by rw [List.map_append]; rfl, fun o ho x e => ?_, ?_⟩
          · rcases List.mem_append.mp ho with ho | ho
            · exact hsg o ho x e
            · rw [List.mem_singleton.mp ho] at e
              cases e
              omega
          · rw [take_one hy, List.map_append]
            exact fitL_snoc hln (fun x e => by cases e; rfl) hfit
      · rintro acc s ⟨os, hd6, l6, hol, rfl, hsg, hfit⟩
        rw [hwn] at hol
        rw [List.take_length, ← hWI, fitL_fits] at hfit
        have Pk := picOf_ok (L := cs.zip os) H0 W0 (by omega) (by omega) fun x hx y e => hsg _ (List.of_mem_zip hx).2 y e
        have Bk := pic_two K.ord C hol
        unfold t_law_b2_r3 sp_read_seen sp_show_seen
        walk_at "rd"
        refine ⟨H, W, cs, os, rfl, hol, K.nd, C, by omega, by omega, hsg, W, _, rfl, Pk, by rw [Bk, pic_len, cs_fst _ _ hol]; exact C, ?_⟩
        rw [Bk, cs_fst _ _ hol, cs_snd _ _ hol]
        walk_at "rd"
        unfold t_law_b2_r4 sp_places_of
        walk_at "rd"
        refine ⟨600, w, RW, cs.map plI, os.map fun o => o.map fun (x : Nat) => ((x : Nat) : Int), by rw [← opts_sen, ← csD_shp]; rfl, F, by decide, hkf, ?_⟩
        unfold t_law_b2_r5 csD
        walk_at "rd"
        refine ⟨sc, ?_⟩
        rw [self_eq sc, if_neg (by decide)]
        refine ⟨shaped_opts os, ?_⟩
        rw [self_eq (shaped_opts os), if_neg (by decide), Int.zero_add]
        have spl := shaped_pls ((places RW.length w).filter fun p => fitsB w RW (cs.map plI) (os.map fun o => o.map fun (x : Nat) => ((x : Nat) : Int)) p.1 p.2)
        have s1 : SeqAt.shaped (pl (j, c)) = true := shaped_tints (plI (j, c))
        refine ⟨⟨s1, spl⟩, ?_⟩
        have hin : (j, c) ∈ (places RW.length w).filter fun p => fitsB w RW (cs.map plI) (os.map fun o => o.map fun (x : Nat) => ((x : Nat) : Int)) p.1 p.2 := List.mem_filter.mpr ⟨places_mem.mpr ⟨hj, by show c < w; omega⟩, hfit⟩
        have hany : ((((places RW.length w).filter fun p => fitsB w RW (cs.map plI) (os.map fun o => o.map fun (x : Nat) => ((x : Nat) : Int)) p.1 p.2).map pl).any fun z => z.eqv (.tuple [.int ((j : Nat) : Int), .int ((c : Nat) : Int)])) = true := List.any_eq_true.mpr ⟨pl (j, c), List.mem_map_of_mem hin, self_eq s1⟩
        rw [hany, if_neg (by decide)]
        unfold t_law_b2_r6 sp__law_fits
        walk_at "rd"
        refine ⟨w, RW, cs, os.map fun o => o.map fun (x : Nat) => ((x : Nat) : Int), by rw [← opts_sen]; rfl, F, Nat.le_trans K.le (by decide), hkb, ?_⟩
        walk_at "rd"
        refine ⟨spl, ?_⟩
        rw [self_eq spl, if_neg (by decide)]
        exact wk_self ⟨_, _, _, _, _, _, _, hd6, l6, rfl⟩
    · rintro e s ⟨z6, z7, z8, z9, z10, z11, z12, hd3, l3, rfl⟩
      have fin : ∀ (X : S3 → Prop) (z13 z14 z15 z16 : Option D), (X = Wk 0 (fun e s => s = [] ∧ e = [some (D.p (.list (ns.map PyData.int))), none, none, none, none, none, none, none, none, none, none, none, none, none, none, none, none, none, none]) [some (.p (.list (ns.map PyData.int))), some (.p (.int (0 + (i : Nat)))), some (.loc 0), some (.p (.tuple (RW.map tupI))), some (.p (.tuple (cs.map pD))), some (.p (.tuple (RW.map tupI))), z6, z7, z8, z9, z10, z11, z12, z13, z14, z15, z16, none, none]) → X s := fun X z13 z14 z15 z16 e => by
        rw [e]
        exact .inr ⟨0, _, Nat.zero_le _, .keep (.drop (.drop (.drop (.drop (.drop (.drop (.drop (.drop (.drop (.drop (.drop (.drop (.drop (.drop (.drop (.drop (.drop (.drop .nil)))))))))))))))))), by rw [List.take_zero], rfl⟩
      unfold t_law_b1_r5 sp_show_floor sp_show_torn
      walk_at "rd"
      simp only [e0]
      walk_at "rd"
      rw [h0l]
      refine ⟨mulOk_lit (by omega), ?_⟩
      by_cases h16 : ((RW.length : Nat) : Int) * ((w : Nat) : Int) ≤ 16
      · rw [if_pos h16]
        rw [← Int.natCast_mul] at h16
        refine ⟨w, _, by rw [hT]; rfl, A, ?_⟩
        rw [full_text]
        have Pf := full_pic A (by omega) (by omega)
        have wdT : ∀ r ∈ T, r.length = w := fun r hr => by
          have := A.wd _ (List.mem_map_of_mem (f := fun r : List Nat => r.map some) hr)
          rw [List.length_map] at this
          exact this
        have hPl : (fulP T).length = T.length := by unfold fulP; rw [List.length_map]
        obtain ⟨c1, c2⟩ := full_all wdT T.length (Nat.le_refl _)
        rw [List.take_length] at c2
        have hC := full_ck (h := T.length) (w := w) (by omega) w0 (by rw [← hRl]; omega)
        unfold sp_read_seen
        refine ⟨w, _, rfl, Pf, by rw [hPl, c1]; exact hC, ?_⟩
        rw [hPl, c1, c2]
        have scl := shaped_csD (places T.length w)
        have hfl := flat_len wdT
        have hol2 : ((T.flatten.map some).map optN).length = T.length * w := by rw [List.length_map, List.length_map, hfl]
        unfold csD
        walk_at "rd"
        simp only [e0]
        walk_at "rd"
        rw [h0l, hfl]
        have hhw : T.length * w ≤ 16 := by rw [← hRl]; omega
        refine ⟨T.length, rg_steps (by omega) w0 (by omega), by omega, fun a acc s' => s' = s ∧ acc = (RW.take a).map tupI, ⟨rfl, rfl⟩, fun _ _ _ _ => trivial, ?_, ?_⟩
        · rintro a x acc s' hx ⟨rfl, rfl⟩
          obtain ⟨ha, rfl⟩ := rngC_get hx
          have hTa : T[a]? = some T[a] := List.getElem?_eq_getElem ha
          have hRa : RW[a]? = some (rwI T[a]) := by rw [← hRW, List.getElem?_map, hTa]; rfl
          have hcut : cut3 ((T.flatten.map some).map optN) (some (0 + ((a : Nat) : Int) * ((w : Nat) : Int))) (some (0 + ((a : Nat) : Int) * ((w : Nat) : Int) + ((w : Nat) : Int))) = (rwI T[a]).map PyData.int := by
            rw [Int.zero_add, ← Int.natCast_mul, show (((a * w : Nat) : Int) + ((w : Nat) : Int)) = ((a * w + w : Nat) : Int) by omega, cut3_seg, ← List.map_drop, ← List.map_take, ← List.map_drop, ← List.map_take, flat_seg (T := T) wdT hTa]
            unfold rwI
            rw [List.map_map, List.map_map]
            rfl
          refine ⟨rfl, ?_⟩
          rw [hcut, take_one hRa, List.map_append]
          rfl
        · rintro acc s' ⟨rfl, rfl⟩
          rw [rngC_len, ← hRl, List.take_length]
          have srw := shaped_trows RW
          refine ⟨⟨srw, srw⟩, ?_⟩
          rw [self_eq srw, if_neg (by decide), hRl]
          unfold sp_places_of sp__law_fits
          have hcc : ∀ k ∈ places T.length w, k.1 ≤ 1000 ∧ k.2 ≤ 1000 := fun k hk => by
            have := places_mem.mp hk
            omega
          refine ⟨600, w, RW, (places T.length w).map plI, (T.flatten.map some).map fun o => o.map fun (x : Nat) => ((x : Nat) : Int), by rw [← opts_sen, ← csD_shp]; rfl, F, by decide, fun k hk => by
            obtain ⟨p, _, rfl⟩ := List.mem_map.mp hk
            exact ⟨_, _, rfl⟩, ?_⟩
          refine ⟨w, RW, places T.length w, (T.flatten.map some).map fun o => o.map fun (x : Nat) => ((x : Nat) : Int), by rw [← opts_sen]; rfl, F, by rw [places_len]; exact hhw, hcc, ?_⟩
          have spl := shaped_pls ((places RW.length w).filter fun p => fitsB w RW ((places T.length w).map plI) ((T.flatten.map some).map fun o => o.map fun (x : Nat) => ((x : Nat) : Int)) p.1 p.2)
          refine ⟨⟨spl, spl⟩, ?_⟩
          rw [self_eq spl, if_neg (by decide)]
          exact fin _ _ _ _ _ rfl
      · rw [if_neg h16]
        exact fin _ _ _ _ _ rfl
  · rintro e s ⟨rfl, rfl⟩
    exact fin_p (q _)
theorem ok_law (T : Txt K mg base) : Ok3G P w K mg base 4 "law" sp_law := by
  obtain ⟨f, fd, F, hm, hb⟩ := T.f_law
  exact Ok3G.mk' F hm hb sc_law (fun ds S Q h => by simp only [sp_law] at h; first | (obtain ⟨rfl, _⟩ := h; rfl) | (obtain ⟨_, rfl, _⟩ := h; rfl) | (obtain ⟨_, _, rfl, _⟩ := h; rfl) | (obtain ⟨_, _, _, rfl, _⟩ := h; rfl) | (obtain ⟨_, _, _, _, rfl, _⟩ := h; rfl) | (obtain ⟨_, _, _, _, _, rfl, _⟩ := h; rfl) | (obtain ⟨_, _, _, _, _, _, rfl, _⟩ := h; rfl) | (obtain ⟨_, _, _, _, _, _, _, rfl, _⟩ := h; rfl) | (obtain ⟨_, _, _, _, _, _, _, _, rfl, _⟩ := h; rfl) | (obtain ⟨_, _, _, _, _, _, _, _, _, rfl, _⟩ := h; rfl) | (obtain ⟨_, _, _, _, _, _, _, _, _, _, rfl, _⟩ := h; rfl) | exact h.2) (fun cdv A outer s H E hgd hr => dv_law T hgd hr) rd_law
end
theorem all_mk {l : PySem.W.OpenLaw} {w : World} {K : PySem.W.Frag} {h : Heap} {mg : Str → Option Value} {fa : Addr} (X : K.In h) (G : h.Ns mainGlobals mg) (hfa : mg "law" = some (.ref fa))
    {f0 : Addr} {od0 an0 : Option Addr} {sl0 : Array (Option Value)} {oc0 kV0 dc0 pm0 cd0 ct0 : Value} (a0 : PySem.W.nsIn K mainGlobals "show_torn" = some (some (.ref f0))) (l0 : K.lookup f0 = some ⟨oc0, od0, .func (PySem.W.fnOf "show_torn" "show_torn" (defArgs s_show_torn) (defBody s_show_torn) (defScope s_show_torn) .none kV0 dc0 pm0 an0 cd0 ct0), sl0⟩) (c0 : PySem.W.codeIn K cd0 "show_torn" = true) (k0 : PySem.W.keepIn K (.ref f0) = true)
    {f1 : Addr} {od1 an1 : Option Addr} {sl1 : Array (Option Value)} {oc1 kV1 dc1 pm1 cd1 ct1 : Value} (a1 : PySem.W.nsIn K mainGlobals "show_floor" = some (some (.ref f1))) (l1 : K.lookup f1 = some ⟨oc1, od1, .func (PySem.W.fnOf "show_floor" "show_floor" (defArgs s_show_floor) (defBody s_show_floor) (defScope s_show_floor) .none kV1 dc1 pm1 an1 cd1 ct1), sl1⟩) (c1 : PySem.W.codeIn K cd1 "show_floor" = true) (k1 : PySem.W.keepIn K (.ref f1) = true)
    {f2 : Addr} {od2 an2 : Option Addr} {sl2 : Array (Option Value)} {oc2 kV2 dc2 pm2 cd2 ct2 : Value} (a2 : PySem.W.nsIn K mainGlobals "show_seen" = some (some (.ref f2))) (l2 : K.lookup f2 = some ⟨oc2, od2, .func (PySem.W.fnOf "show_seen" "show_seen" (defArgs s_show_seen) (defBody s_show_seen) (defScope s_show_seen) .none kV2 dc2 pm2 an2 cd2 ct2), sl2⟩) (c2 : PySem.W.codeIn K cd2 "show_seen" = true) (k2 : PySem.W.keepIn K (.ref f2) = true)
    {f3 : Addr} {od3 an3 : Option Addr} {sl3 : Array (Option Value)} {oc3 kV3 dc3 pm3 cd3 ct3 : Value} (a3 : PySem.W.nsIn K mainGlobals "show_shape" = some (some (.ref f3))) (l3 : K.lookup f3 = some ⟨oc3, od3, .func (PySem.W.fnOf "show_shape" "show_shape" (defArgs s_show_shape) (defBody s_show_shape) (defScope s_show_shape) .none kV3 dc3 pm3 an3 cd3 ct3), sl3⟩) (c3 : PySem.W.codeIn K cd3 "show_shape" = true) (k3 : PySem.W.keepIn K (.ref f3) = true)
    {f4 : Addr} {od4 an4 : Option Addr} {sl4 : Array (Option Value)} {oc4 kV4 dc4 pm4 cd4 ct4 : Value} (a4 : PySem.W.nsIn K mainGlobals "picture_rows" = some (some (.ref f4))) (l4 : K.lookup f4 = some ⟨oc4, od4, .func (PySem.W.fnOf "picture_rows" "picture_rows" (defArgs s_picture_rows) (defBody s_picture_rows) (defScope s_picture_rows) .none kV4 dc4 pm4 an4 cd4 ct4), sl4⟩) (c4 : PySem.W.codeIn K cd4 "picture_rows" = true) (k4 : PySem.W.keepIn K (.ref f4) = true)
    {f5 : Addr} {od5 an5 : Option Addr} {sl5 : Array (Option Value)} {oc5 kV5 dc5 pm5 cd5 ct5 : Value} (a5 : PySem.W.nsIn K mainGlobals "read_torn" = some (some (.ref f5))) (l5 : K.lookup f5 = some ⟨oc5, od5, .func (PySem.W.fnOf "read_torn" "read_torn" (defArgs s_read_torn) (defBody s_read_torn) (defScope s_read_torn) .none kV5 dc5 pm5 an5 cd5 ct5), sl5⟩) (c5 : PySem.W.codeIn K cd5 "read_torn" = true) (k5 : PySem.W.keepIn K (.ref f5) = true)
    {f6 : Addr} {od6 an6 : Option Addr} {sl6 : Array (Option Value)} {oc6 kV6 dc6 pm6 cd6 ct6 : Value} (a6 : PySem.W.nsIn K mainGlobals "read_floor" = some (some (.ref f6))) (l6 : K.lookup f6 = some ⟨oc6, od6, .func (PySem.W.fnOf "read_floor" "read_floor" (defArgs s_read_floor) (defBody s_read_floor) (defScope s_read_floor) .none kV6 dc6 pm6 an6 cd6 ct6), sl6⟩) (c6 : PySem.W.codeIn K cd6 "read_floor" = true) (k6 : PySem.W.keepIn K (.ref f6) = true)
    {f7 : Addr} {od7 an7 : Option Addr} {sl7 : Array (Option Value)} {oc7 kV7 dc7 pm7 cd7 ct7 : Value} (a7 : PySem.W.nsIn K mainGlobals "checked_cells" = some (some (.ref f7))) (l7 : K.lookup f7 = some ⟨oc7, od7, .func (PySem.W.fnOf "checked_cells" "checked_cells" (defArgs s_checked_cells) (defBody s_checked_cells) (defScope s_checked_cells) .none kV7 dc7 pm7 an7 cd7 ct7), sl7⟩) (c7 : PySem.W.codeIn K cd7 "checked_cells" = true) (k7 : PySem.W.keepIn K (.ref f7) = true)
    {f8 : Addr} {od8 an8 : Option Addr} {sl8 : Array (Option Value)} {oc8 kV8 dc8 pm8 cd8 ct8 : Value} (a8 : PySem.W.nsIn K mainGlobals "read_seen" = some (some (.ref f8))) (l8 : K.lookup f8 = some ⟨oc8, od8, .func (PySem.W.fnOf "read_seen" "read_seen" (defArgs s_read_seen) (defBody s_read_seen) (defScope s_read_seen) .none kV8 dc8 pm8 an8 cd8 ct8), sl8⟩) (c8 : PySem.W.codeIn K cd8 "read_seen" = true) (k8 : PySem.W.keepIn K (.ref f8) = true)
    {f9 : Addr} {od9 an9 : Option Addr} {sl9 : Array (Option Value)} {oc9 kV9 dc9 pm9 cd9 ct9 : Value} (a9 : PySem.W.nsIn K mainGlobals "read_shape" = some (some (.ref f9))) (l9 : K.lookup f9 = some ⟨oc9, od9, .func (PySem.W.fnOf "read_shape" "read_shape" (defArgs s_read_shape) (defBody s_read_shape) (defScope s_read_shape) .none kV9 dc9 pm9 an9 cd9 ct9), sl9⟩) (c9 : PySem.W.codeIn K cd9 "read_shape" = true) (k9 : PySem.W.keepIn K (.ref f9) = true)
    {f10 : Addr} {od10 an10 : Option Addr} {sl10 : Array (Option Value)} {oc10 kV10 dc10 pm10 cd10 ct10 : Value} (a10 : PySem.W.nsIn K mainGlobals "size" = some (some (.ref f10))) (l10 : K.lookup f10 = some ⟨oc10, od10, .func (PySem.W.fnOf "size" "size" (defArgs s_size) (defBody s_size) (defScope s_size) .none kV10 dc10 pm10 an10 cd10 ct10), sl10⟩) (c10 : PySem.W.codeIn K cd10 "size" = true) (k10 : PySem.W.keepIn K (.ref f10) = true)
    {f11 : Addr} {od11 an11 : Option Addr} {sl11 : Array (Option Value)} {oc11 kV11 dc11 pm11 cd11 ct11 : Value} (a11 : PySem.W.nsIn K mainGlobals "all_places" = some (some (.ref f11))) (l11 : K.lookup f11 = some ⟨oc11, od11, .func (PySem.W.fnOf "all_places" "all_places" (defArgs s_all_places) (defBody s_all_places) (defScope s_all_places) .none kV11 dc11 pm11 an11 cd11 ct11), sl11⟩) (c11 : PySem.W.codeIn K cd11 "all_places" = true) (k11 : PySem.W.keepIn K (.ref f11) = true)
    {f12 : Addr} {od12 an12 : Option Addr} {sl12 : Array (Option Value)} {oc12 kV12 dc12 pm12 cd12 ct12 : Value} (a12 : PySem.W.nsIn K mainGlobals "sign_at" = some (some (.ref f12))) (l12 : K.lookup f12 = some ⟨oc12, od12, .func (PySem.W.fnOf "sign_at" "sign_at" (defArgs s_sign_at) (defBody s_sign_at) (defScope s_sign_at) .none kV12 dc12 pm12 an12 cd12 ct12), sl12⟩) (c12 : PySem.W.codeIn K cd12 "sign_at" = true) (k12 : PySem.W.keepIn K (.ref f12) = true)
    {f13 : Addr} {od13 an13 : Option Addr} {sl13 : Array (Option Value)} {oc13 kV13 dc13 pm13 cd13 ct13 : Value} (a13 : PySem.W.nsIn K mainGlobals "window" = some (some (.ref f13))) (l13 : K.lookup f13 = some ⟨oc13, od13, .func (PySem.W.fnOf "window" "window" (defArgs s_window) (defBody s_window) (defScope s_window) .none kV13 dc13 pm13 an13 cd13 ct13), sl13⟩) (c13 : PySem.W.codeIn K cd13 "window" = true) (k13 : PySem.W.keepIn K (.ref f13) = true)
    {f14 : Addr} {od14 an14 : Option Addr} {sl14 : Array (Option Value)} {oc14 kV14 dc14 pm14 cd14 ct14 : Value} (a14 : PySem.W.nsIn K mainGlobals "fits" = some (some (.ref f14))) (l14 : K.lookup f14 = some ⟨oc14, od14, .func (PySem.W.fnOf "fits" "fits" (defArgs s_fits) (defBody s_fits) (defScope s_fits) .none kV14 dc14 pm14 an14 cd14 ct14), sl14⟩) (c14 : PySem.W.codeIn K cd14 "fits" = true) (k14 : PySem.W.keepIn K (.ref f14) = true)
    {f15 : Addr} {od15 an15 : Option Addr} {sl15 : Array (Option Value)} {oc15 kV15 dc15 pm15 cd15 ct15 : Value} (a15 : PySem.W.nsIn K mainGlobals "places_of" = some (some (.ref f15))) (l15 : K.lookup f15 = some ⟨oc15, od15, .func (PySem.W.fnOf "places_of" "places_of" (defArgs s_places_of) (defBody s_places_of) (defScope s_places_of) .none kV15 dc15 pm15 an15 cd15 ct15), sl15⟩) (c15 : PySem.W.codeIn K cd15 "places_of" = true) (k15 : PySem.W.keepIn K (.ref f15) = true)
    {f16 : Addr} {od16 an16 : Option Addr} {sl16 : Array (Option Value)} {oc16 kV16 dc16 pm16 cd16 ct16 : Value} (a16 : PySem.W.nsIn K mainGlobals "_law_pot" = some (some (.ref f16))) (l16 : K.lookup f16 = some ⟨oc16, od16, .func (PySem.W.fnOf "_law_pot" "_law_pot" (defArgs s__law_pot) (defBody s__law_pot) (defScope s__law_pot) .none kV16 dc16 pm16 an16 cd16 ct16), sl16⟩) (c16 : PySem.W.codeIn K cd16 "_law_pot" = true) (k16 : PySem.W.keepIn K (.ref f16) = true)
    {f17 : Addr} {od17 an17 : Option Addr} {sl17 : Array (Option Value)} {oc17 kV17 dc17 pm17 cd17 ct17 : Value} (a17 : PySem.W.nsIn K mainGlobals "_law_take" = some (some (.ref f17))) (l17 : K.lookup f17 = some ⟨oc17, od17, .func (PySem.W.fnOf "_law_take" "_law_take" (defArgs s__law_take) (defBody s__law_take) (defScope s__law_take) .none kV17 dc17 pm17 an17 cd17 ct17), sl17⟩) (c17 : PySem.W.codeIn K cd17 "_law_take" = true) (k17 : PySem.W.keepIn K (.ref f17) = true)
    {f18 : Addr} {od18 an18 : Option Addr} {sl18 : Array (Option Value)} {oc18 kV18 dc18 pm18 cd18 ct18 : Value} (a18 : PySem.W.nsIn K mainGlobals "_law_floor" = some (some (.ref f18))) (l18 : K.lookup f18 = some ⟨oc18, od18, .func (PySem.W.fnOf "_law_floor" "_law_floor" (defArgs s__law_floor) (defBody s__law_floor) (defScope s__law_floor) .none kV18 dc18 pm18 an18 cd18 ct18), sl18⟩) (c18 : PySem.W.codeIn K cd18 "_law_floor" = true) (k18 : PySem.W.keepIn K (.ref f18) = true)
    {f19 : Addr} {od19 an19 : Option Addr} {sl19 : Array (Option Value)} {oc19 kV19 dc19 pm19 cd19 ct19 : Value} (a19 : PySem.W.nsIn K mainGlobals "_law_shape" = some (some (.ref f19))) (l19 : K.lookup f19 = some ⟨oc19, od19, .func (PySem.W.fnOf "_law_shape" "_law_shape" (defArgs s__law_shape) (defBody s__law_shape) (defScope s__law_shape) .none kV19 dc19 pm19 an19 cd19 ct19), sl19⟩) (c19 : PySem.W.codeIn K cd19 "_law_shape" = true) (k19 : PySem.W.keepIn K (.ref f19) = true)
    {f20 : Addr} {od20 an20 : Option Addr} {sl20 : Array (Option Value)} {oc20 kV20 dc20 pm20 cd20 ct20 : Value} (a20 : PySem.W.nsIn K mainGlobals "_law_window" = some (some (.ref f20))) (l20 : K.lookup f20 = some ⟨oc20, od20, .func (PySem.W.fnOf "_law_window" "_law_window" (defArgs s__law_window) (defBody s__law_window) (defScope s__law_window) .none kV20 dc20 pm20 an20 cd20 ct20), sl20⟩) (c20 : PySem.W.codeIn K cd20 "_law_window" = true) (k20 : PySem.W.keepIn K (.ref f20) = true)
    {f21 : Addr} {od21 an21 : Option Addr} {sl21 : Array (Option Value)} {oc21 kV21 dc21 pm21 cd21 ct21 : Value} (a21 : PySem.W.nsIn K mainGlobals "_law_fits" = some (some (.ref f21))) (l21 : K.lookup f21 = some ⟨oc21, od21, .func (PySem.W.fnOf "_law_fits" "_law_fits" (defArgs s__law_fits) (defBody s__law_fits) (defScope s__law_fits) .none kV21 dc21 pm21 an21 cd21 ct21), sl21⟩) (c21 : PySem.W.codeIn K cd21 "_law_fits" = true) (k21 : PySem.W.keepIn K (.ref f21) = true)
    {f22 : Addr} {od22 an22 : Option Addr} {sl22 : Array (Option Value)} {oc22 kV22 dc22 pm22 cd22 ct22 : Value} (a22 : PySem.W.nsIn K mainGlobals "law" = some (some (.ref f22))) (l22 : K.lookup f22 = some ⟨oc22, od22, .func (PySem.W.fnOf "law" "law" (defArgs s_law) (defBody s_law) (defScope s_law) .none kV22 dc22 pm22 an22 cd22 ct22), sl22⟩) (c22 : PySem.W.codeIn K cd22 "law" = true) (k22 : PySem.W.keepIn K (.ref f22) = true)
    (nt : NoTK K)
    (z_abs : PySem.W.nsIn K mainGlobals "abs" = some none)
    (z_all : PySem.W.nsIn K mainGlobals "all" = some none)
    (z_enumerate : PySem.W.nsIn K mainGlobals "enumerate" = some none)
    (z_int : PySem.W.nsIn K mainGlobals "int" = some none)
    (z_len : PySem.W.nsIn K mainGlobals "len" = some none)
    (z_max : PySem.W.nsIn K mainGlobals "max" = some none)
    (z_min : PySem.W.nsIn K mainGlobals "min" = some none)
    (z_range : PySem.W.nsIn K mainGlobals "range" = some none)
    (z_sorted : PySem.W.nsIn K mainGlobals "sorted" = some none)
    (z_tuple : PySem.W.nsIn K mainGlobals "tuple" = some none)
    (z_zip : PySem.W.nsIn K mainGlobals "zip" = some none)
    {u_FARTHEST : Value} (g_FARTHEST : PySem.W.nsIn K mainGlobals "FARTHEST" = some (some u_FARTHEST)) (r_FARTHEST : ∃ v : V, RelV v u_FARTHEST ∧ ∀ H, L3.Dp K H v (.int 39))
    {u_MOST_CELLS : Value} (g_MOST_CELLS : PySem.W.nsIn K mainGlobals "MOST_CELLS" = some (some u_MOST_CELLS)) (r_MOST_CELLS : ∃ v : V, RelV v u_MOST_CELLS ∧ ∀ H, L3.Dp K H v (.int 16))
    {u_MOST_PLACES : Value} (g_MOST_PLACES : PySem.W.nsIn K mainGlobals "MOST_PLACES" = some (some u_MOST_PLACES)) (r_MOST_PLACES : ∃ v : V, RelV v u_MOST_PLACES ∧ ∀ H, L3.Dp K H v (.int 600))
    {u_SIGNS : Value} (g_SIGNS : PySem.W.nsIn K mainGlobals "SIGNS" = some (some u_SIGNS)) (r_SIGNS : ∃ v : V, RelV v u_SIGNS ∧ ∀ H, L3.Dp K H v (.str (PySem.Str.ofString "0123456789abcdefghijklmnopqrstuvwxyz")))
    : ∃ fd : FuncData, (∀ (s : Shared) (v : Value), BindsTo s fd ⟨[v], []⟩ [("_law_script", v)]) ∧ ∀ base : Heap, K.In base → base.Ns mainGlobals mg → base.NoDigits → FnG l.prog w K mg base 4 fa fd ["_law_script"] (fun vs H Q _ => lowC K sp_law vs H Q) := by
  have e := hfa.symm.trans (PySem.W.mg_of X G a22)
  cases e
  have F0 := fun_mk (st := s_show_torn) l0 c0 k0
  have B0 := F0.binds (ps := ["torn"]) fun _ _ _ _ _ _ us hl => match us, hl with | [_], _ => rfl
  have F1 := fun_mk (st := s_show_floor) l1 c1 k1
  have B1 := F1.binds (ps := ["floor"]) fun _ _ _ _ _ _ us hl => match us, hl with | [_], _ => rfl
  have F2 := fun_mk (st := s_show_seen) l2 c2 k2
  have B2 := F2.binds (ps := ["shape", "seen"]) fun _ _ _ _ _ _ us hl => match us, hl with | [_, _], _ => rfl
  have F3 := fun_mk (st := s_show_shape) l3 c3 k3
  have B3 := F3.binds (ps := ["shape"]) fun _ _ _ _ _ _ us hl => match us, hl with | [_], _ => rfl
  have F4 := fun_mk (st := s_picture_rows) l4 c4 k4
  have B4 := F4.binds (ps := ["text", "signs"]) fun _ _ _ _ _ _ us hl => match us, hl with | [_, _], _ => rfl
  have F5 := fun_mk (st := s_read_torn) l5 c5 k5
  have B5 := F5.binds (ps := ["text"]) fun _ _ _ _ _ _ us hl => match us, hl with | [_], _ => rfl
  have F6 := fun_mk (st := s_read_floor) l6 c6 k6
  have B6 := F6.binds (ps := ["text"]) fun _ _ _ _ _ _ us hl => match us, hl with | [_], _ => rfl
  have F7 := fun_mk (st := s_checked_cells) l7 c7 k7
  have B7 := F7.binds (ps := ["cells", "rows"]) fun _ _ _ _ _ _ us hl => match us, hl with | [_, _], _ => rfl
  have F8 := fun_mk (st := s_read_seen) l8 c8 k8
  have B8 := F8.binds (ps := ["text"]) fun _ _ _ _ _ _ us hl => match us, hl with | [_], _ => rfl
  have F9 := fun_mk (st := s_read_shape) l9 c9 k9
  have B9 := F9.binds (ps := ["text"]) fun _ _ _ _ _ _ us hl => match us, hl with | [_], _ => rfl
  have F10 := fun_mk (st := s_size) l10 c10 k10
  have B10 := F10.binds (ps := ["floor"]) fun _ _ _ _ _ _ us hl => match us, hl with | [_], _ => rfl
  have F11 := fun_mk (st := s_all_places) l11 c11 k11
  have B11 := F11.binds (ps := ["floor"]) fun _ _ _ _ _ _ us hl => match us, hl with | [_], _ => rfl
  have F12 := fun_mk (st := s_sign_at) l12 c12 k12
  have B12 := F12.binds (ps := ["floor", "r", "c"]) fun _ _ _ _ _ _ us hl => match us, hl with | [_, _, _], _ => rfl
  have F13 := fun_mk (st := s_window) l13 c13 k13
  have B13 := F13.binds (ps := ["floor", "shape", "place"]) fun _ _ _ _ _ _ us hl => match us, hl with | [_, _, _], _ => rfl
  have F14 := fun_mk (st := s_fits) l14 c14 k14
  have B14 := F14.binds (ps := ["floor", "shape", "seen", "place"]) fun _ _ _ _ _ _ us hl => match us, hl with | [_, _, _, _], _ => rfl
  have F15 := fun_mk (st := s_places_of) l15 c15 k15
  have B15 := F15.binds (ps := ["floor", "shape", "seen"]) fun _ _ _ _ _ _ us hl => match us, hl with | [_, _, _], _ => rfl
  have F16 := fun_mk (st := s__law_pot) l16 c16 k16
  have B16 := F16.binds (ps := ["_law_script", "_law_k"]) fun _ _ _ _ _ _ us hl => match us, hl with | [_, _], _ => rfl
  have F17 := fun_mk (st := s__law_take) l17 c17 k17
  have B17 := F17.binds (ps := ["_law_pot_here", "_law_many"]) fun _ _ _ _ _ _ us hl => match us, hl with | [_, _], _ => rfl
  have F18 := fun_mk (st := s__law_floor) l18 c18 k18
  have B18 := F18.binds (ps := ["_law_pot_here"]) fun _ _ _ _ _ _ us hl => match us, hl with | [_], _ => rfl
  have F19 := fun_mk (st := s__law_shape) l19 c19 k19
  have B19 := F19.binds (ps := ["_law_pot_here"]) fun _ _ _ _ _ _ us hl => match us, hl with | [_], _ => rfl
  have F20 := fun_mk (st := s__law_window) l20 c20 k20
  have B20 := F20.binds (ps := ["_law_floor_here", "_law_shape_here", "_law_r", "_law_c"]) fun _ _ _ _ _ _ us hl => match us, hl with | [_, _, _, _], _ => rfl
  have F21 := fun_mk (st := s__law_fits) l21 c21 k21
  have B21 := F21.binds (ps := ["_law_floor_here", "_law_shape_here", "_law_seen"]) fun _ _ _ _ _ _ us hl => match us, hl with | [_, _, _], _ => rfl
  have F22 := fun_mk (st := s_law) l22 c22 k22
  have B22 := F22.binds (ps := ["_law_script"]) fun _ _ _ _ _ _ us hl => match us, hl with | [_], _ => rfl
  refine ⟨PySem.W.fnOf "law" "law" (defArgs s_law) (defBody s_law) (defScope s_law) .none kV22 dc22 pm22 an22 cd22 ct22, fun s v => .of_eq rfl, fun base _ _ nd => ?_⟩
  have T : Txt K mg base := { nd := nd, nt := nt, b_abs := PySem.W.mg_none_of X G z_abs, b_all := PySem.W.mg_none_of X G z_all, b_enumerate := PySem.W.mg_none_of X G z_enumerate, b_int := PySem.W.mg_none_of X G z_int, b_len := PySem.W.mg_none_of X G z_len, b_max := PySem.W.mg_none_of X G z_max, b_min := PySem.W.mg_none_of X G z_min, b_range := PySem.W.mg_none_of X G z_range, b_sorted := PySem.W.mg_none_of X G z_sorted, b_tuple := PySem.W.mg_none_of X G z_tuple, b_zip := PySem.W.mg_none_of X G z_zip, c_FARTHEST := (let ⟨v, h1, h2⟩ := r_FARTHEST; ⟨_, v, PySem.W.mg_of X G g_FARTHEST, h1, h2⟩), c_MOST_CELLS := (let ⟨v, h1, h2⟩ := r_MOST_CELLS; ⟨_, v, PySem.W.mg_of X G g_MOST_CELLS, h1, h2⟩), c_MOST_PLACES := (let ⟨v, h1, h2⟩ := r_MOST_PLACES; ⟨_, v, PySem.W.mg_of X G g_MOST_PLACES, h1, h2⟩), c_SIGNS := (let ⟨v, h1, h2⟩ := r_SIGNS; ⟨_, v, PySem.W.mg_of X G g_SIGNS, h1, h2⟩), f_show_torn := ⟨_, _, F0, PySem.W.mg_of X G a0, B0⟩, f_show_floor := ⟨_, _, F1, PySem.W.mg_of X G a1, B1⟩, f_show_seen := ⟨_, _, F2, PySem.W.mg_of X G a2, B2⟩, f_show_shape := ⟨_, _, F3, PySem.W.mg_of X G a3, B3⟩, f_picture_rows := ⟨_, _, F4, PySem.W.mg_of X G a4, B4⟩, f_read_torn := ⟨_, _, F5, PySem.W.mg_of X G a5, B5⟩, f_read_floor := ⟨_, _, F6, PySem.W.mg_of X G a6, B6⟩, f_checked_cells := ⟨_, _, F7, PySem.W.mg_of X G a7, B7⟩, f_read_seen := ⟨_, _, F8, PySem.W.mg_of X G a8, B8⟩, f_read_shape := ⟨_, _, F9, PySem.W.mg_of X G a9, B9⟩, f_size := ⟨_, _, F10, PySem.W.mg_of X G a10, B10⟩, f_all_places := ⟨_, _, F11, PySem.W.mg_of X G a11, B11⟩, f_sign_at := ⟨_, _, F12, PySem.W.mg_of X G a12, B12⟩, f_window := ⟨_, _, F13, PySem.W.mg_of X G a13, B13⟩, f_fits := ⟨_, _, F14, PySem.W.mg_of X G a14, B14⟩, f_places_of := ⟨_, _, F15, PySem.W.mg_of X G a15, B15⟩, f__law_pot := ⟨_, _, F16, PySem.W.mg_of X G a16, B16⟩, f__law_take := ⟨_, _, F17, PySem.W.mg_of X G a17, B17⟩, f__law_floor := ⟨_, _, F18, PySem.W.mg_of X G a18, B18⟩, f__law_shape := ⟨_, _, F19, PySem.W.mg_of X G a19, B19⟩, f__law_window := ⟨_, _, F20, PySem.W.mg_of X G a20, B20⟩, f__law_fits := ⟨_, _, F21, PySem.W.mg_of X G a21, B21⟩, f_law := ⟨_, _, F22, PySem.W.mg_of X G a22, B22⟩ }
  exact Ok3G.fnG F22 B22 sc_law (fun ds S Q h => by simp only [sp_law] at h; first | (obtain ⟨_, rfl, _⟩ := h; rfl) | exact h.2) (fun cdv A outer s H E hgd hr => dv_law T hgd hr) rd_law
theorem all_mkE {l : PySem.W.OpenLaw} {w : World} {K : PySem.W.Frag} {h : Heap} {mg : Str → Option Value} {fa : Addr} (X : (filtK K).In h) (G : h.Ns mainGlobals mg) (hfa : mg "law" = some (.ref fa))
    {f0 : Addr} {od0 an0 : Option Addr} {sl0 : Array (Option Value)} {oc0 kV0 dc0 pm0 cd0 ct0 : Value} (a0 : PySem.W.nsIn K mainGlobals "show_torn" = some (some (.ref f0))) (l0 : K.lookup f0 = some ⟨oc0, od0, .func (PySem.W.fnOf "show_torn" "show_torn" (defArgs s_show_torn) (defBody s_show_torn) (defScope s_show_torn) .none kV0 dc0 pm0 an0 cd0 ct0), sl0⟩) (c0 : PySem.W.codeIn K cd0 "show_torn" = true)
    {f1 : Addr} {od1 an1 : Option Addr} {sl1 : Array (Option Value)} {oc1 kV1 dc1 pm1 cd1 ct1 : Value} (a1 : PySem.W.nsIn K mainGlobals "show_floor" = some (some (.ref f1))) (l1 : K.lookup f1 = some ⟨oc1, od1, .func (PySem.W.fnOf "show_floor" "show_floor" (defArgs s_show_floor) (defBody s_show_floor) (defScope s_show_floor) .none kV1 dc1 pm1 an1 cd1 ct1), sl1⟩) (c1 : PySem.W.codeIn K cd1 "show_floor" = true)
    {f2 : Addr} {od2 an2 : Option Addr} {sl2 : Array (Option Value)} {oc2 kV2 dc2 pm2 cd2 ct2 : Value} (a2 : PySem.W.nsIn K mainGlobals "show_seen" = some (some (.ref f2))) (l2 : K.lookup f2 = some ⟨oc2, od2, .func (PySem.W.fnOf "show_seen" "show_seen" (defArgs s_show_seen) (defBody s_show_seen) (defScope s_show_seen) .none kV2 dc2 pm2 an2 cd2 ct2), sl2⟩) (c2 : PySem.W.codeIn K cd2 "show_seen" = true)
    {f3 : Addr} {od3 an3 : Option Addr} {sl3 : Array (Option Value)} {oc3 kV3 dc3 pm3 cd3 ct3 : Value} (a3 : PySem.W.nsIn K mainGlobals "show_shape" = some (some (.ref f3))) (l3 : K.lookup f3 = some ⟨oc3, od3, .func (PySem.W.fnOf "show_shape" "show_shape" (defArgs s_show_shape) (defBody s_show_shape) (defScope s_show_shape) .none kV3 dc3 pm3 an3 cd3 ct3), sl3⟩) (c3 : PySem.W.codeIn K cd3 "show_shape" = true)
    {f4 : Addr} {od4 an4 : Option Addr} {sl4 : Array (Option Value)} {oc4 kV4 dc4 pm4 cd4 ct4 : Value} (a4 : PySem.W.nsIn K mainGlobals "picture_rows" = some (some (.ref f4))) (l4 : K.lookup f4 = some ⟨oc4, od4, .func (PySem.W.fnOf "picture_rows" "picture_rows" (defArgs s_picture_rows) (defBody s_picture_rows) (defScope s_picture_rows) .none kV4 dc4 pm4 an4 cd4 ct4), sl4⟩) (c4 : PySem.W.codeIn K cd4 "picture_rows" = true)
    {f5 : Addr} {od5 an5 : Option Addr} {sl5 : Array (Option Value)} {oc5 kV5 dc5 pm5 cd5 ct5 : Value} (a5 : PySem.W.nsIn K mainGlobals "read_torn" = some (some (.ref f5))) (l5 : K.lookup f5 = some ⟨oc5, od5, .func (PySem.W.fnOf "read_torn" "read_torn" (defArgs s_read_torn) (defBody s_read_torn) (defScope s_read_torn) .none kV5 dc5 pm5 an5 cd5 ct5), sl5⟩) (c5 : PySem.W.codeIn K cd5 "read_torn" = true)
    {f6 : Addr} {od6 an6 : Option Addr} {sl6 : Array (Option Value)} {oc6 kV6 dc6 pm6 cd6 ct6 : Value} (a6 : PySem.W.nsIn K mainGlobals "read_floor" = some (some (.ref f6))) (l6 : K.lookup f6 = some ⟨oc6, od6, .func (PySem.W.fnOf "read_floor" "read_floor" (defArgs s_read_floor) (defBody s_read_floor) (defScope s_read_floor) .none kV6 dc6 pm6 an6 cd6 ct6), sl6⟩) (c6 : PySem.W.codeIn K cd6 "read_floor" = true)
    {f7 : Addr} {od7 an7 : Option Addr} {sl7 : Array (Option Value)} {oc7 kV7 dc7 pm7 cd7 ct7 : Value} (a7 : PySem.W.nsIn K mainGlobals "checked_cells" = some (some (.ref f7))) (l7 : K.lookup f7 = some ⟨oc7, od7, .func (PySem.W.fnOf "checked_cells" "checked_cells" (defArgs s_checked_cells) (defBody s_checked_cells) (defScope s_checked_cells) .none kV7 dc7 pm7 an7 cd7 ct7), sl7⟩) (c7 : PySem.W.codeIn K cd7 "checked_cells" = true)
    {f8 : Addr} {od8 an8 : Option Addr} {sl8 : Array (Option Value)} {oc8 kV8 dc8 pm8 cd8 ct8 : Value} (a8 : PySem.W.nsIn K mainGlobals "read_seen" = some (some (.ref f8))) (l8 : K.lookup f8 = some ⟨oc8, od8, .func (PySem.W.fnOf "read_seen" "read_seen" (defArgs s_read_seen) (defBody s_read_seen) (defScope s_read_seen) .none kV8 dc8 pm8 an8 cd8 ct8), sl8⟩) (c8 : PySem.W.codeIn K cd8 "read_seen" = true)
    {f9 : Addr} {od9 an9 : Option Addr} {sl9 : Array (Option Value)} {oc9 kV9 dc9 pm9 cd9 ct9 : Value} (a9 : PySem.W.nsIn K mainGlobals "read_shape" = some (some (.ref f9))) (l9 : K.lookup f9 = some ⟨oc9, od9, .func (PySem.W.fnOf "read_shape" "read_shape" (defArgs s_read_shape) (defBody s_read_shape) (defScope s_read_shape) .none kV9 dc9 pm9 an9 cd9 ct9), sl9⟩) (c9 : PySem.W.codeIn K cd9 "read_shape" = true)
    {f10 : Addr} {od10 an10 : Option Addr} {sl10 : Array (Option Value)} {oc10 kV10 dc10 pm10 cd10 ct10 : Value} (a10 : PySem.W.nsIn K mainGlobals "size" = some (some (.ref f10))) (l10 : K.lookup f10 = some ⟨oc10, od10, .func (PySem.W.fnOf "size" "size" (defArgs s_size) (defBody s_size) (defScope s_size) .none kV10 dc10 pm10 an10 cd10 ct10), sl10⟩) (c10 : PySem.W.codeIn K cd10 "size" = true)
    {f11 : Addr} {od11 an11 : Option Addr} {sl11 : Array (Option Value)} {oc11 kV11 dc11 pm11 cd11 ct11 : Value} (a11 : PySem.W.nsIn K mainGlobals "all_places" = some (some (.ref f11))) (l11 : K.lookup f11 = some ⟨oc11, od11, .func (PySem.W.fnOf "all_places" "all_places" (defArgs s_all_places) (defBody s_all_places) (defScope s_all_places) .none kV11 dc11 pm11 an11 cd11 ct11), sl11⟩) (c11 : PySem.W.codeIn K cd11 "all_places" = true)
    {f12 : Addr} {od12 an12 : Option Addr} {sl12 : Array (Option Value)} {oc12 kV12 dc12 pm12 cd12 ct12 : Value} (a12 : PySem.W.nsIn K mainGlobals "sign_at" = some (some (.ref f12))) (l12 : K.lookup f12 = some ⟨oc12, od12, .func (PySem.W.fnOf "sign_at" "sign_at" (defArgs s_sign_at) (defBody s_sign_at) (defScope s_sign_at) .none kV12 dc12 pm12 an12 cd12 ct12), sl12⟩) (c12 : PySem.W.codeIn K cd12 "sign_at" = true)
    {f13 : Addr} {od13 an13 : Option Addr} {sl13 : Array (Option Value)} {oc13 kV13 dc13 pm13 cd13 ct13 : Value} (a13 : PySem.W.nsIn K mainGlobals "window" = some (some (.ref f13))) (l13 : K.lookup f13 = some ⟨oc13, od13, .func (PySem.W.fnOf "window" "window" (defArgs s_window) (defBody s_window) (defScope s_window) .none kV13 dc13 pm13 an13 cd13 ct13), sl13⟩) (c13 : PySem.W.codeIn K cd13 "window" = true)
    {f14 : Addr} {od14 an14 : Option Addr} {sl14 : Array (Option Value)} {oc14 kV14 dc14 pm14 cd14 ct14 : Value} (a14 : PySem.W.nsIn K mainGlobals "fits" = some (some (.ref f14))) (l14 : K.lookup f14 = some ⟨oc14, od14, .func (PySem.W.fnOf "fits" "fits" (defArgs s_fits) (defBody s_fits) (defScope s_fits) .none kV14 dc14 pm14 an14 cd14 ct14), sl14⟩) (c14 : PySem.W.codeIn K cd14 "fits" = true)
    {f15 : Addr} {od15 an15 : Option Addr} {sl15 : Array (Option Value)} {oc15 kV15 dc15 pm15 cd15 ct15 : Value} (a15 : PySem.W.nsIn K mainGlobals "places_of" = some (some (.ref f15))) (l15 : K.lookup f15 = some ⟨oc15, od15, .func (PySem.W.fnOf "places_of" "places_of" (defArgs s_places_of) (defBody s_places_of) (defScope s_places_of) .none kV15 dc15 pm15 an15 cd15 ct15), sl15⟩) (c15 : PySem.W.codeIn K cd15 "places_of" = true)
    {f16 : Addr} {od16 an16 : Option Addr} {sl16 : Array (Option Value)} {oc16 kV16 dc16 pm16 cd16 ct16 : Value} (a16 : PySem.W.nsIn K mainGlobals "_law_pot" = some (some (.ref f16))) (l16 : K.lookup f16 = some ⟨oc16, od16, .func (PySem.W.fnOf "_law_pot" "_law_pot" (defArgs s__law_pot) (defBody s__law_pot) (defScope s__law_pot) .none kV16 dc16 pm16 an16 cd16 ct16), sl16⟩) (c16 : PySem.W.codeIn K cd16 "_law_pot" = true)
    {f17 : Addr} {od17 an17 : Option Addr} {sl17 : Array (Option Value)} {oc17 kV17 dc17 pm17 cd17 ct17 : Value} (a17 : PySem.W.nsIn K mainGlobals "_law_take" = some (some (.ref f17))) (l17 : K.lookup f17 = some ⟨oc17, od17, .func (PySem.W.fnOf "_law_take" "_law_take" (defArgs s__law_take) (defBody s__law_take) (defScope s__law_take) .none kV17 dc17 pm17 an17 cd17 ct17), sl17⟩) (c17 : PySem.W.codeIn K cd17 "_law_take" = true)
    {f18 : Addr} {od18 an18 : Option Addr} {sl18 : Array (Option Value)} {oc18 kV18 dc18 pm18 cd18 ct18 : Value} (a18 : PySem.W.nsIn K mainGlobals "_law_floor" = some (some (.ref f18))) (l18 : K.lookup f18 = some ⟨oc18, od18, .func (PySem.W.fnOf "_law_floor" "_law_floor" (defArgs s__law_floor) (defBody s__law_floor) (defScope s__law_floor) .none kV18 dc18 pm18 an18 cd18 ct18), sl18⟩) (c18 : PySem.W.codeIn K cd18 "_law_floor" = true)
    {f19 : Addr} {od19 an19 : Option Addr} {sl19 : Array (Option Value)} {oc19 kV19 dc19 pm19 cd19 ct19 : Value} (a19 : PySem.W.nsIn K mainGlobals "_law_shape" = some (some (.ref f19))) (l19 : K.lookup f19 = some ⟨oc19, od19, .func (PySem.W.fnOf "_law_shape" "_law_shape" (defArgs s__law_shape) (defBody s__law_shape) (defScope s__law_shape) .none kV19 dc19 pm19 an19 cd19 ct19), sl19⟩) (c19 : PySem.W.codeIn K cd19 "_law_shape" = true)
    {f20 : Addr} {od20 an20 : Option Addr} {sl20 : Array (Option Value)} {oc20 kV20 dc20 pm20 cd20 ct20 : Value} (a20 : PySem.W.nsIn K mainGlobals "_law_window" = some (some (.ref f20))) (l20 : K.lookup f20 = some ⟨oc20, od20, .func (PySem.W.fnOf "_law_window" "_law_window" (defArgs s__law_window) (defBody s__law_window) (defScope s__law_window) .none kV20 dc20 pm20 an20 cd20 ct20), sl20⟩) (c20 : PySem.W.codeIn K cd20 "_law_window" = true)
    {f21 : Addr} {od21 an21 : Option Addr} {sl21 : Array (Option Value)} {oc21 kV21 dc21 pm21 cd21 ct21 : Value} (a21 : PySem.W.nsIn K mainGlobals "_law_fits" = some (some (.ref f21))) (l21 : K.lookup f21 = some ⟨oc21, od21, .func (PySem.W.fnOf "_law_fits" "_law_fits" (defArgs s__law_fits) (defBody s__law_fits) (defScope s__law_fits) .none kV21 dc21 pm21 an21 cd21 ct21), sl21⟩) (c21 : PySem.W.codeIn K cd21 "_law_fits" = true)
    {f22 : Addr} {od22 an22 : Option Addr} {sl22 : Array (Option Value)} {oc22 kV22 dc22 pm22 cd22 ct22 : Value} (a22 : PySem.W.nsIn K mainGlobals "law" = some (some (.ref f22))) (l22 : K.lookup f22 = some ⟨oc22, od22, .func (PySem.W.fnOf "law" "law" (defArgs s_law) (defBody s_law) (defScope s_law) .none kV22 dc22 pm22 an22 cd22 ct22), sl22⟩) (c22 : PySem.W.codeIn K cd22 "law" = true)
    (z_abs : PySem.W.nsIn K mainGlobals "abs" = some none)
    (z_all : PySem.W.nsIn K mainGlobals "all" = some none)
    (z_enumerate : PySem.W.nsIn K mainGlobals "enumerate" = some none)
    (z_int : PySem.W.nsIn K mainGlobals "int" = some none)
    (z_len : PySem.W.nsIn K mainGlobals "len" = some none)
    (z_max : PySem.W.nsIn K mainGlobals "max" = some none)
    (z_min : PySem.W.nsIn K mainGlobals "min" = some none)
    (z_range : PySem.W.nsIn K mainGlobals "range" = some none)
    (z_sorted : PySem.W.nsIn K mainGlobals "sorted" = some none)
    (z_tuple : PySem.W.nsIn K mainGlobals "tuple" = some none)
    (z_zip : PySem.W.nsIn K mainGlobals "zip" = some none)
    {u_FARTHEST : Value} (g_FARTHEST : PySem.W.nsIn K mainGlobals "FARTHEST" = some (some u_FARTHEST)) (r_FARTHEST : ∃ v : V, RelV v u_FARTHEST ∧ ∀ H, L3.Dp (filtK K) H v (.int 39))
    {u_MOST_CELLS : Value} (g_MOST_CELLS : PySem.W.nsIn K mainGlobals "MOST_CELLS" = some (some u_MOST_CELLS)) (r_MOST_CELLS : ∃ v : V, RelV v u_MOST_CELLS ∧ ∀ H, L3.Dp (filtK K) H v (.int 16))
    {u_MOST_PLACES : Value} (g_MOST_PLACES : PySem.W.nsIn K mainGlobals "MOST_PLACES" = some (some u_MOST_PLACES)) (r_MOST_PLACES : ∃ v : V, RelV v u_MOST_PLACES ∧ ∀ H, L3.Dp (filtK K) H v (.int 600))
    {u_SIGNS : Value} (g_SIGNS : PySem.W.nsIn K mainGlobals "SIGNS" = some (some u_SIGNS)) (r_SIGNS : ∃ v : V, RelV v u_SIGNS ∧ ∀ H, L3.Dp (filtK K) H v (.str (PySem.Str.ofString "0123456789abcdefghijklmnopqrstuvwxyz")))
    : ∃ fd : FuncData, (∀ (s : Shared) (v : Value), BindsTo s fd ⟨[v], []⟩ [("_law_script", v)]) ∧ ∀ base : Heap, (filtK K).In base → base.Ns mainGlobals mg → base.NoDigits → FnG l.prog w (filtK K) mg base 4 fa fd ["_law_script"] (fun vs H Q _ => lowC (filtK K) sp_law vs H Q) :=
  all_mk X G hfa (nsIn_filt a0) (filt_keep (by rfl) l0) (codeIn_filt c0) (keepIn_filt l0) (nsIn_filt a1) (filt_keep (by rfl) l1) (codeIn_filt c1) (keepIn_filt l1) (nsIn_filt a2) (filt_keep (by rfl) l2) (codeIn_filt c2) (keepIn_filt l2) (nsIn_filt a3) (filt_keep (by rfl) l3) (codeIn_filt c3) (keepIn_filt l3) (nsIn_filt a4) (filt_keep (by rfl) l4) (codeIn_filt c4) (keepIn_filt l4) (nsIn_filt a5) (filt_keep (by rfl) l5) (codeIn_filt c5) (keepIn_filt l5) (nsIn_filt a6) (filt_keep (by rfl) l6) (codeIn_filt c6) (keepIn_filt l6) (nsIn_filt a7) (filt_keep (by rfl) l7) (codeIn_filt c7) (keepIn_filt l7) (nsIn_filt a8) (filt_keep (by rfl) l8) (codeIn_filt c8) (keepIn_filt l8) (nsIn_filt a9) (filt_keep (by rfl) l9) (codeIn_filt c9) (keepIn_filt l9) (nsIn_filt a10) (filt_keep (by rfl) l10) (codeIn_filt c10) (keepIn_filt l10) (nsIn_filt a11) (filt_keep (by rfl) l11) (codeIn_filt c11) (keepIn_filt l11) (nsIn_filt a12) (filt_keep (by rfl) l12) (codeIn_filt c12) (keepIn_filt l12) (nsIn_filt a13) (filt_keep (by rfl) l13) (codeIn_filt c13) (keepIn_filt l13) (nsIn_filt a14) (filt_keep (by rfl) l14) (codeIn_filt c14) (keepIn_filt l14) (nsIn_filt a15) (filt_keep (by rfl) l15) (codeIn_filt c15) (keepIn_filt l15) (nsIn_filt a16) (filt_keep (by rfl) l16) (codeIn_filt c16) (keepIn_filt l16) (nsIn_filt a17) (filt_keep (by rfl) l17) (codeIn_filt c17) (keepIn_filt l17) (nsIn_filt a18) (filt_keep (by rfl) l18) (codeIn_filt c18) (keepIn_filt l18) (nsIn_filt a19) (filt_keep (by rfl) l19) (codeIn_filt c19) (keepIn_filt l19) (nsIn_filt a20) (filt_keep (by rfl) l20) (codeIn_filt c20) (keepIn_filt l20) (nsIn_filt a21) (filt_keep (by rfl) l21) (codeIn_filt c21) (keepIn_filt l21) (nsIn_filt a22) (filt_keep (by rfl) l22) (codeIn_filt c22) (keepIn_filt l22) (NoTK.filt K) (nsIn_filt z_abs) (nsIn_filt z_all) (nsIn_filt z_enumerate) (nsIn_filt z_int) (nsIn_filt z_len) (nsIn_filt z_max) (nsIn_filt z_min) (nsIn_filt z_range) (nsIn_filt z_sorted) (nsIn_filt z_tuple) (nsIn_filt z_zip) (nsIn_filt g_FARTHEST) r_FARTHEST (nsIn_filt g_MOST_CELLS) r_MOST_CELLS (nsIn_filt g_MOST_PLACES) r_MOST_PLACES (nsIn_filt g_SIGNS) r_SIGNS 
end G_k75
open PySem PySem.W PyProof.Rows
set_option maxHeartbeats 0 in
theorem PySem.Challenge.cw_windowfloor_k75_whole_written_and_read_holds : PySem.Challenge.rw_windowfloor_k75_whole_written_and_read.Holds := by
  w_on; o_law; k_head; (case hw => w_witness2)
  k_fill
  refine L3.walk_ofDE (l := PySem.Challenge.rw_windowfloor_k75_whole_written_and_read) (n := 63) (k := 4) (x := "_law_script") (sp := fun w => fun vs H Q _ => L3.lowC _ G_k75.sp_law vs H Q) rfl (by decide) rfl ⟨rfl, by decide, by decide⟩ (fun w h Y => PySem.W.kIn_of Y) (fun w => by first | kernel_rfl | rfl | with_unfolding_all rfl) ?F (fun _ _ a ns hl _ hS => L3.law_in hl hS fun _ => rfl)
  case F =>
    intro w mg fa h KX G hmg
    refine' G_k75.all_mkE KX G hmg ?a0 ?l0 ?c0 ?a1 ?l1 ?c1 ?a2 ?l2 ?c2 ?a3 ?l3 ?c3 ?a4 ?l4 ?c4 ?a5 ?l5 ?c5 ?a6 ?l6 ?c6 ?a7 ?l7 ?c7 ?a8 ?l8 ?c8 ?a9 ?l9 ?c9 ?a10 ?l10 ?c10 ?a11 ?l11 ?c11 ?a12 ?l12 ?c12 ?a13 ?l13 ?c13 ?a14 ?l14 ?c14 ?a15 ?l15 ?c15 ?a16 ?l16 ?c16 ?a17 ?l17 ?c17 ?a18 ?l18 ?c18 ?a19 ?l19 ?c19 ?a20 ?l20 ?c20 ?a21 ?l21 ?c21 ?a22 ?l22 ?c22 ?z_abs ?z_all ?z_enumerate ?z_int ?z_len ?z_max ?z_min ?z_range ?z_sorted ?z_tuple ?z_zip ?g_FARTHEST ?r_FARTHEST ?g_MOST_CELLS ?r_MOST_CELLS ?g_MOST_PLACES ?r_MOST_PLACES ?g_SIGNS ?r_SIGNS
    (case a0 => k_is); (case l0 => k_is); (case c0 => k_is); (case a1 => k_is); (case l1 => k_is); (case c1 => k_is); (case a2 => k_is); (case l2 => k_is); (case c2 => k_is); (case a3 => k_is); (case l3 => k_is); (case c3 => k_is); (case a4 => k_is); (case l4 => k_is); (case c4 => k_is); (case a5 => k_is); (case l5 => k_is); (case c5 => k_is); (case a6 => k_is); (case l6 => k_is); (case c6 => k_is); (case a7 => k_is); (case l7 => k_is); (case c7 => k_is); (case a8 => k_is); (case l8 => k_is); (case c8 => k_is); (case a9 => k_is); (case l9 => k_is); (case c9 => k_is); (case a10 => k_is); (case l10 => k_is); (case c10 => k_is); (case a11 => k_is); (case l11 => k_is); (case c11 => k_is); (case a12 => k_is); (case l12 => k_is); (case c12 => k_is); (case a13 => k_is); (case l13 => k_is); (case c13 => k_is); (case a14 => k_is); (case l14 => k_is); (case c14 => k_is); (case a15 => k_is); (case l15 => k_is); (case c15 => k_is); (case a16 => k_is); (case l16 => k_is); (case c16 => k_is); (case a17 => k_is); (case l17 => k_is); (case c17 => k_is); (case a18 => k_is); (case l18 => k_is); (case c18 => k_is); (case a19 => k_is); (case l19 => k_is); (case c19 => k_is); (case a20 => k_is); (case l20 => k_is); (case c20 => k_is); (case a21 => k_is); (case l21 => k_is); (case c21 => k_is); (case a22 => k_is); (case l22 => k_is); (case c22 => k_is); (case z_abs => k_is); (case z_all => k_is); (case z_enumerate => k_is); (case z_int => k_is); (case z_len => k_is); (case z_max => k_is); (case z_min => k_is); (case z_range => k_is); (case z_sorted => k_is); (case z_tuple => k_is); (case z_zip => k_is); (case g_FARTHEST => k_is); (case r_FARTHEST => first | exact ⟨L2.V.int _, ⟨_, rfl⟩, fun _ => .int _⟩ | exact ⟨L2.V.str _, ⟨_, rfl⟩, fun _ => .str _⟩); (case g_MOST_CELLS => k_is); (case r_MOST_CELLS => first | exact ⟨L2.V.int _, ⟨_, rfl⟩, fun _ => .int _⟩ | exact ⟨L2.V.str _, ⟨_, rfl⟩, fun _ => .str _⟩); (case g_MOST_PLACES => k_is); (case r_MOST_PLACES => first | exact ⟨L2.V.int _, ⟨_, rfl⟩, fun _ => .int _⟩ | exact ⟨L2.V.str _, ⟨_, rfl⟩, fun _ => .str _⟩); (case g_SIGNS => k_is); (case r_SIGNS => first | exact ⟨L2.V.int _, ⟨_, rfl⟩, fun _ => .int _⟩ | exact ⟨L2.V.str _, ⟨_, rfl⟩, fun _ => .str _⟩)
